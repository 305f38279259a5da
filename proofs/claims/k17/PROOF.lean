import PyProof.Rows.All
import Wide.All
import OpenK.AllK
import Wide.FinOn
import HandS.ForMost
import HandS.Style
import HandS.TryOnly
import HandS.TupLe
import HandS.TupAny
import HandS.Wide
import HandS.IsInst
import HandS.Conv
import KE.DataAny
import PyProof.Rows.SumAny
import HandS.SortOrd
import KE.SortLaws
import HandS.Ends
import HandS.Zip
import KE.GoesMore
import KE.GoesZip
import PyProof.Rows.EnumRows
import KE.DatumIndex
import HandS.FStrTup
import PyProof.ReprRoads
import HandS.Star
import PySem.Challenge.RW_drybytheirhour_k17_whole_washes_of_two_h
set_option Elab.async false
set_option linter.all false
set_option maxRecDepth 100000
namespace Mi
open PySem PySem.Spec PyProof.Rows L2

/-! ### data -/
inductive D where
  | non
  | bl (b : Bool)
  | int (i : Int)
  | str (s : List Nat)
  | tup (l : List D)
  | lst (l : List D)
  | dic (l : List (D × D))
  | pot
  | scr (l : List Int)
  | rep (d : D)

/-- a computation that draws -/
inductive T (α : Type) where
  | ret (a : α)
  | draw (k : Nat) (f : Nat → T α)
  | fail
def T.bind {α β : Type} : T α → (α → T β) → T β
  | .ret a, g => g a
  | .draw k f, g => .draw k fun d => (f d).bind g
  | .fail, _ => .fail
def T.ok {α : Type} : T α → Nat → (Nat → α → Prop) → Prop
  | .ret a, N, Q => Q N a
  | .draw k f, N, Q => match N with
    | 0 => False
    | N + 1 => ∀ d, d < k → (f d).ok N Q
  | .fail, _, _ => False
theorem T.ok_mono {α : Type} {Q Q' : Nat → α → Prop} (h : ∀ N a, Q N a → Q' N a) : ∀ {t : T α} {N : Nat}, t.ok N Q → t.ok N Q'
  | .ret a, N, q => h N a q
  | .draw k f, 0, q => q.elim
  | .draw k f, N + 1, q => fun d hd => T.ok_mono h (q d hd)
  | .fail, _, q => q.elim
theorem T.ok_bind {α β : Type} {g : α → T β} {Q : Nat → β → Prop} : ∀ {t : T α} {N : Nat}, (t.bind g).ok N Q → t.ok N fun N' a => (g a).ok N' Q
  | .ret a, N, q => q
  | .draw k f, 0, q => q.elim
  | .draw k f, N + 1, q => fun d hd => T.ok_bind (q d hd)
  | .fail, _, q => q.elim
theorem T.bind_ok {α β : Type} {g : α → T β} {Q : Nat → β → Prop} : ∀ {t : T α} {N : Nat}, (t.ok N fun N' a => (g a).ok N' Q) → (t.bind g).ok N Q
  | .ret a, N, q => q
  | .draw k f, 0, q => q.elim
  | .draw k f, N + 1, q => fun d hd => T.bind_ok (q d hd)
  | .fail, _, q => q.elim
@[simp] theorem T.ret_bind {α β : Type} (a : α) (g : α → T β) : (T.ret a).bind g = g a := rfl
@[simp] theorem T.fail_bind {α β : Type} (g : α → T β) : (T.fail : T α).bind g = .fail := rfl
def T.ofO {α : Type} : Option α → T α
  | some a => .ret a
  | none => .fail

abbrev Slot := Option (Bool × D)
abbrev Ev := List Slot
/-- what an expression hands on: a value that no one changes any more; the list in a slot; a list just made -/
inductive Hd where
  | val (d : D)
  | slot (i : Nat)
  | tmp (d : D)
abbrev M := Ev → T (Hd × Ev)
abbrev MT := Ev → T (Bool × Ev)
abbrev MA := Ev → T (List D × Ev)
inductive Fl where
  | nx | bk | ct
  | rt (d : D)
abbrev MS := Ev → T (Fl × Ev)

def rs (e : Ev) : Hd → Option D
  | .val d => some d
  | .tmp d => some d
  | .slot i => match e[i]? with
    | some (some (_, d)) => some d
    | _ => none
/-- as a value -/
def fz (e : Ev) : Hd → Option (D × Ev)
  | .val d => some (d, e)
  | .tmp d => some (d, e)
  | .slot i => match e[i]? with
    | some (some (_, d)) => some (d, e.set i (some (false, d)))
    | _ => none

/-! ### how data lies in the heap -/
/-- the script's own list -/
def ScrAt (K : PySem.W.Frag) (H : Hp) (a : Addr) (ns : List Int) : Prop :=
  (∃ o, H a = some (.frz o (.lst (ns.map V.int)))) ∨
    ∃ (o : Obj) (its : Array Value) (n : Nat), K.lookup a = some o ∧ o.cls = .type "list" ∧ o.dict = none ∧ o.data = .seq its n ∧ its.size ≤ sizeLine ∧ Vals (ns.map V.int) its.toList
theorem ScrAt.seq {K : PySem.W.Frag} {H : Hp} {a : Addr} {ns : List Int} (h : ScrAt K H a ns) : SqL K H a (ns.map V.int) := by
  rcases h with ⟨o, h⟩ | h
  · exact .inl (.inr ⟨o, h⟩)
  · exact .inr h
section
variable (K : PySem.W.Frag) (F P : Addr → Prop) (H : Hp)
mutual
def RV : D → V → Prop
  | .non, v => v = .non
  | .bl b, v => v = .bl b
  | .int i, v => v = .int i
  | .str s, v => v = .str ⟨s.toArray⟩
  | .tup ds, v => ∃ a vs, v = .ref a ∧ H a = some (.tup vs) ∧ RVs ds vs
  | .lst ds, v => ∃ a vs, v = .ref a ∧ F a ∧ H a = some (.lst vs) ∧ RVs ds vs
  | .dic _, _ => False
  | .pot, v => ∃ a, v = .ref a ∧ P a
  | .scr ns, v => ∃ a, v = .ref a ∧ ScrAt K H a ns
  | .rep _, _ => False
def RVs : List D → List V → Prop
  | [], vs => vs = []
  | d :: ds, vs => ∃ v vr, vs = v :: vr ∧ RV d v ∧ RVs ds vr
end
/-- what a slot (or a fresh temporary) owns -/
def Own (a : Addr) : D → Prop
  | .lst ds => ∃ vs, H a = some (.lst vs) ∧ RVs K F P H ds vs
  | _ => False
/-- content, at the top of unknown owner -/
def RC (d : D) (v : V) : Prop := RV K F P H d v ∨ ∃ a, v = .ref a ∧ Own K F P H a d
end

/-- the limit of draws -/
def LIM : Nat := 2 ^ 100000
def PotOk (N : Nat) (o : Option HO) : Prop :=
  ∃ x y c : Int, o = some (.lst [.int x, .int y, .int c]) ∧ 0 ≤ x ∧ x < 10 ^ 300 ∧ 0 ≤ y ∧ y < 2305843009213693952 ∧ 0 ≤ c ∧ c + N ≤ LIM

/-- a frame: the heap, the frozen, the pots at its entry -/
structure Fr where
  H0 : Hp
  F0 : Addr → Prop
  P0 : Addr → Prop

def Owned (env : Ev) (σ : L2.St) (a : Addr) : Prop := ∃ (i : Nat) (d : D), env[i]? = some (some (true, d)) ∧ σ[i]? = some (some (V.ref a))

structure StR (K : PySem.W.Frag) (Z : Fr) (N : Nat) (F P : Addr → Prop) (env : Ev) (σ : L2.St) (H : Hp) : Prop where
  len : env.length = σ.length
  fz : ∀ (i : Nat) d, env[i]? = some (some (false, d)) → ∃ v, σ[i]? = some (some v) ∧ RV K F P H d v
  ow : ∀ (i : Nat) d, env[i]? = some (some (true, d)) → ∃ a, σ[i]? = some (some (.ref a)) ∧ Own K F P H a d ∧ ¬ F a ∧ ¬ P a ∧ Z.H0 a = none
  inj : ∀ (i j : Nat) d d', env[i]? = some (some (true, d)) → env[j]? = some (some (true, d')) → σ[i]? = σ[j]? → i = j
  same : ∀ b o, Z.H0 b = some o → ¬ P b → H b = some o
  frF : ∀ a, F a → Z.F0 a ∨ Z.H0 a = none
  frP : ∀ a, P a → Z.P0 a ∨ Z.H0 a = none
  subF : ∀ a, Z.F0 a → F a
  subP : ∀ a, Z.P0 a → P a
  trF : ∀ a, F a → ∃ o, H a = some o
  pot : ∀ a, P a → PotOk N (H a)
  dis : ∀ a, F a → ¬ P a
  nle : N ≤ LIM

/-- what an expression leaves -/
structure Ext (σ : L2.St) (env : Ev) (F P : Addr → Prop) (H : Hp) (env' : Ev) (F' P' : Addr → Prop) (H' : Hp) : Prop where
  fF : ∀ a, F a → F' a
  pP : ∀ a, P a → P' a
  own : ∀ a, Owned env' σ a → Owned env σ a
  slot : ∀ (i : Nat) fl d, env[i]? = some (some (fl, d)) → ∃ fl' d', env'[i]? = some (some (fl', d'))
  keep : ∀ b o, H b = some o → ¬ P b → ¬ Owned env σ b → H' b = some o
  newF : ∀ a, F' a → F a ∨ H a = none ∨ Owned env σ a
  newP : ∀ a, P' a → P a ∨ H a = none
  trk : ∀ b, H b ≠ none → H' b ≠ none

def RH (K : PySem.W.Frag) (Z : Fr) (F P : Addr → Prop) (env : Ev) (σ : L2.St) (H : Hp) : Hd → V → Prop
  | .val d, v => RV K F P H d v
  | .tmp d, v => ∃ a, v = .ref a ∧ Own K F P H a d ∧ ¬ F a ∧ ¬ P a ∧ ¬ Owned env σ a ∧ Z.H0 a = none
  | .slot i, v => σ[i]? = some (some v) ∧ ∃ fl d, env[i]? = some (some (fl, d))
/-- a temporary is younger than the expression's start -/
def Young (H : Hp) : Hd → V → Prop
  | .tmp _, v => ∃ a, v = .ref a ∧ H a = none
  | _, _ => True

structure Mon (K : PySem.W.Frag) (F P : Addr → Prop) (H : Hp) (F' P' : Addr → Prop) (H' : Hp) : Prop where
  fF : ∀ a, F a → F' a
  pP : ∀ a, P a → P' a
  tup : ∀ a xs, H a = some (.tup xs) → H' a = some (.tup xs)
  lst : ∀ a xs, F a → H a = some (.lst xs) → H' a = some (.lst xs)
  frz : ∀ a o u, H a = some (.frz o u) → H' a = some (.frz o u)

section
variable (K : PySem.W.Frag) (Z : Fr)
def tM (m : M) : TE := fun σ H Q => ∃ N F P env, StR K Z N F P env σ H ∧ (m env).ok N fun N' r =>
  ∀ v H' F' P', Ext σ env F P H r.2 F' P' H' → StR K Z N' F' P' r.2 σ H' → RH K Z F' P' r.2 σ H' r.1 v → Young H r.1 v → Q v H'
def tT (m : MT) : TT := fun σ H Q => ∃ N F P env, StR K Z N F P env σ H ∧ (m env).ok N fun N' r =>
  ∀ H' F' P', Ext σ env F P H r.2 F' P' H' → StR K Z N' F' P' r.2 σ H' → Q r.1 H'
def tA (m : MA) : TA := fun σ H Q => ∃ N F P env, StR K Z N F P env σ H ∧ (m env).ok N fun N' r =>
  ∀ vs H' F' P', Ext σ env F P H r.2 F' P' H' → StR K Z N' F' P' r.2 σ H' → RVs K F' P' H' r.1 vs → Q vs H'
def EndsM (D : Ends) (N : Nat) (F P : Addr → Prop) (σ : L2.St) (H : Hp) : Fl → Prop
  | .nx => D.nx σ H
  | .bk => D.bk σ H
  | .ct => D.ct σ H
  | .rt d => ∀ v, RV K F P H d v → D.rt v H
def sM (m : MS) : TS := fun D σ H => ∃ N F P env, StR K Z N F P env σ H ∧ (m env).ok N fun N' r =>
  ∀ σ' H' F' P', Mon K F P H F' P' H' → StR K Z N' F' P' r.2 σ' H' → EndsM K D N' F' P' σ' H' r.1
end
end Mi
set_option Elab.async false
set_option linter.all false
set_option maxRecDepth 100000
set_option maxHeartbeats 1000000
namespace Mi
open PySem PySem.Spec PyProof.Rows L2

section
variable {K : PySem.W.Frag} {F P F' P' F'' P'' : Addr → Prop} {H H' H'' : Hp}

mutual
theorem RV.mono (m : Mon K F P H F' P' H') : ∀ (d : D) (v : V), RV K F P H d v → RV K F' P' H' d v
  | .non, v, h => by simp only [RV] at h ⊢; exact h
  | .bl b, v, h => by simp only [RV] at h ⊢; exact h
  | .int i, v, h => by simp only [RV] at h ⊢; exact h
  | .str s, v, h => by simp only [RV] at h ⊢; exact h
  | .tup ds, v, h => by
    simp only [RV] at h ⊢
    obtain ⟨a, vs, e, q, r⟩ := h
    exact ⟨a, vs, e, m.tup a vs q, RVs.mono m ds vs r⟩
  | .lst ds, v, h => by
    simp only [RV] at h ⊢
    obtain ⟨a, vs, e, f, q, r⟩ := h
    exact ⟨a, vs, e, m.fF a f, m.lst a vs f q, RVs.mono m ds vs r⟩
  | .dic _, v, h => by simp only [RV] at h
  | .pot, v, h => by
    simp only [RV] at h ⊢
    obtain ⟨a, e, p⟩ := h
    exact ⟨a, e, m.pP a p⟩
  | .scr ns, v, h => by
    simp only [RV] at h ⊢
    obtain ⟨a, e, q⟩ := h
    refine ⟨a, e, ?_⟩
    rcases q with ⟨o, q⟩ | q
    · exact .inl ⟨o, m.frz a o _ q⟩
    · exact .inr q
  | .rep _, v, h => by simp only [RV] at h
theorem RVs.mono (m : Mon K F P H F' P' H') : ∀ (ds : List D) (vs : List V), RVs K F P H ds vs → RVs K F' P' H' ds vs
  | [], vs, h => by simp only [RVs] at h ⊢; exact h
  | d :: ds, vs, h => by
    simp only [RVs] at h ⊢
    obtain ⟨v, vr, e, q, r⟩ := h
    exact ⟨v, vr, e, RV.mono m d v q, RVs.mono m ds vr r⟩
end
theorem RVs.length : ∀ {ds : List D} {vs : List V}, RVs K F P H ds vs → vs.length = ds.length
  | [], vs, h => by simp only [RVs] at h; subst h; rfl
  | d :: ds, vs, h => by
    simp only [RVs] at h
    obtain ⟨v, vr, e, q, r⟩ := h
    subst e
    simp [RVs.length r]
theorem RVs.get : ∀ {ds : List D} {vs : List V} {i : Nat} {d : D}, RVs K F P H ds vs → ds[i]? = some d → ∃ v, vs[i]? = some v ∧ RV K F P H d v
  | [], vs, i, d, h, e => by simp at e
  | d :: ds, vs, 0, d', h, e => by
    simp only [RVs] at h
    obtain ⟨v, vr, e1, q, r⟩ := h
    subst e1
    simp at e; subst e
    exact ⟨v, rfl, q⟩
  | d :: ds, vs, i + 1, d', h, e => by
    simp only [RVs] at h
    obtain ⟨v, vr, e1, q, r⟩ := h
    subst e1
    obtain ⟨v', e2, q2⟩ := RVs.get (i := i) r (by simpa using e)
    exact ⟨v', by simpa using e2, q2⟩
theorem RVs.get' : ∀ {ds : List D} {vs : List V} {i : Nat} {v : V}, RVs K F P H ds vs → vs[i]? = some v → ∃ d, ds[i]? = some d ∧ RV K F P H d v := fun {ds vs i v} h e => by
  have hl := h.length
  have hi : i < ds.length := by
    rw [← hl]; exact (List.getElem?_eq_some_iff.mp e).1
  obtain ⟨v', e', q⟩ := h.get (List.getElem?_eq_getElem hi)
  rw [e] at e'; cases e'
  exact ⟨_, List.getElem?_eq_getElem hi, q⟩
theorem RVs.append : ∀ {ds : List D} {vs : List V} {es : List D} {ws : List V}, RVs K F P H ds vs → RVs K F P H es ws → RVs K F P H (ds ++ es) (vs ++ ws)
  | [], vs, es, ws, h, h' => by simp only [RVs] at h; subst h; exact h'
  | d :: ds, vs, es, ws, h, h' => by
    simp only [RVs] at h
    obtain ⟨v, vr, e1, q, r⟩ := h
    subst e1
    show RVs K F P H (d :: (ds ++ es)) (v :: (vr ++ ws))
    simp only [RVs]
    exact ⟨v, _, rfl, q, RVs.append r h'⟩
theorem RVs.nil : RVs K F P H [] [] := by simp only [RVs]
theorem RVs.cons {d : D} {v : V} {ds : List D} {vs : List V} (h : RV K F P H d v) (h' : RVs K F P H ds vs) : RVs K F P H (d :: ds) (v :: vs) := by
  simp only [RVs]; exact ⟨v, vs, rfl, h, h'⟩
theorem RVs.one {d : D} {v : V} (h : RV K F P H d v) : RVs K F P H [d] [v] := .cons h .nil
theorem RVs.uncons {d : D} {ds : List D} {vs : List V} (h : RVs K F P H (d :: ds) vs) : ∃ v vr, vs = v :: vr ∧ RV K F P H d v ∧ RVs K F P H ds vr := by
  simp only [RVs] at h; exact h
theorem RVs.unnil {vs : List V} (h : RVs K F P H [] vs) : vs = [] := by
  simp only [RVs] at h; exact h
theorem RVs.take : ∀ {ds : List D} {vs : List V} (n : Nat), RVs K F P H ds vs → RVs K F P H (ds.take n) (vs.take n)
  | ds, vs, 0, h => by simpa using RVs.nil
  | [], vs, n + 1, h => by rw [h.unnil]; simpa using RVs.nil
  | d :: ds, vs, n + 1, h => by
    obtain ⟨v, vr, rfl, q, r⟩ := h.uncons
    exact .cons q (RVs.take n r)
theorem RVs.drop : ∀ {ds : List D} {vs : List V} (n : Nat), RVs K F P H ds vs → RVs K F P H (ds.drop n) (vs.drop n)
  | ds, vs, 0, h => h
  | [], vs, n + 1, h => by rw [h.unnil]; simpa using RVs.nil
  | d :: ds, vs, n + 1, h => by
    obtain ⟨v, vr, rfl, q, r⟩ := h.uncons
    exact RVs.drop n r
theorem RVs.set : ∀ {ds : List D} {vs : List V} {d : D} {v : V} (n : Nat), RVs K F P H ds vs → RV K F P H d v → RVs K F P H (ds.set n d) (vs.set n v)
  | [], vs, d, v, n, h, q => by rw [h.unnil]; simpa using RVs.nil
  | d0 :: ds, vs, d, v, 0, h, q => by
    obtain ⟨v0, vr, rfl, q0, r⟩ := h.uncons
    exact .cons q r
  | d0 :: ds, vs, d, v, n + 1, h, q => by
    obtain ⟨v0, vr, rfl, q0, r⟩ := h.uncons
    exact .cons q0 (RVs.set n r q)
theorem RVs.eraseIdx : ∀ {ds : List D} {vs : List V} (n : Nat), RVs K F P H ds vs → RVs K F P H (ds.eraseIdx n) (vs.eraseIdx n)
  | [], vs, n, h => by rw [h.unnil]; simpa using RVs.nil
  | d0 :: ds, vs, 0, h => by
    obtain ⟨v0, vr, rfl, q0, r⟩ := h.uncons
    exact r
  | d0 :: ds, vs, n + 1, h => by
    obtain ⟨v0, vr, rfl, q0, r⟩ := h.uncons
    exact .cons q0 (RVs.eraseIdx n r)
theorem RVs.snoc : ∀ {ds : List D} {vs : List V}, RVs K F P H ds vs → RVs K F P H ds.reverse vs.reverse
  | [], vs, h => by rw [h.unnil]; simpa using RVs.nil
  | d0 :: ds, vs, h => by
    obtain ⟨v0, vr, rfl, q0, r⟩ := h.uncons
    rw [List.reverse_cons, List.reverse_cons]
    exact (RVs.snoc r).append (.one q0)
theorem RVs.dropLast : ∀ {ds : List D} {vs : List V}, RVs K F P H ds vs → RVs K F P H ds.dropLast vs.dropLast := fun {ds vs} h => by
  rw [List.dropLast_eq_take, List.dropLast_eq_take, h.length]
  exact h.take _
theorem RVs.of_mem : ∀ {ds : List D} {vs : List V} {d : D}, RVs K F P H ds vs → d ∈ ds → ∃ v, v ∈ vs ∧ RV K F P H d v := fun {ds vs d} h hd => by
  obtain ⟨i, hi⟩ := List.mem_iff_getElem?.mp hd
  obtain ⟨v, e, q⟩ := h.get hi
  exact ⟨v, List.mem_of_getElem? e, q⟩
end

section
variable {K : PySem.W.Frag} {Z : Fr} {N N' N'' : Nat} {F P F' P' F'' P'' : Addr → Prop} {env env' env'' : Ev} {σ : L2.St} {H H' H'' : Hp}

theorem Own.lst_of {a : Addr} {d : D} (h : Own K F P H a d) : ∃ vs, H a = some (.lst vs) := by
  cases d with
  | lst ds => obtain ⟨vs, e, _⟩ := h; exact ⟨vs, e⟩
  | _ => exact h.elim
theorem StR.owned (S : StR K Z N F P env σ H) {a : Addr} (o : Owned env σ a) : (∃ vs, H a = some (.lst vs)) ∧ ¬ F a ∧ ¬ P a ∧ Z.H0 a = none := by
  obtain ⟨i, d, e1, e2⟩ := o
  obtain ⟨b, e3, ow, nf, np, h0⟩ := S.ow i d e1
  rw [e2] at e3
  cases e3
  exact ⟨ow.lst_of, nf, np, h0⟩
theorem PotOk.lst {N : Nat} {o : Option HO} (h : PotOk N o) : ∃ vs, o = some (.lst vs) := by
  obtain ⟨x, y, c, e, _⟩ := h
  exact ⟨_, e⟩
theorem PotOk.le {N N' : Nat} {o : Option HO} (h : PotOk N o) (hN : N' ≤ N) : PotOk N' o := by
  obtain ⟨x, y, c, e, h1, h2, h3, h4, h5, h6⟩ := h
  exact ⟨x, y, c, e, h1, h2, h3, h4, h5, by omega⟩

/-- an expression's leavings keep what is known -/
theorem Ext.mon (S : StR K Z N F P env σ H) (E : Ext σ env F P H env' F' P' H') : Mon K F P H F' P' H' where
  fF := E.fF
  pP := E.pP
  tup := fun a xs h => by
    refine E.keep _ _ h (fun p => ?_) (fun p => ?_)
    · obtain ⟨vs, e'⟩ := (S.pot a p).lst
      rw [h] at e'; cases e'
    · obtain ⟨⟨vs, e'⟩, _⟩ := S.owned p
      rw [h] at e'; cases e'
  lst := fun a xs f h => by
    have nP := S.dis a f
    have nO : ¬ Owned env σ a := fun o => (S.owned o).2.1 f
    exact E.keep _ _ h nP nO
  frz := fun a o u h => by
    refine E.keep _ _ h (fun p => ?_) (fun p => ?_)
    · obtain ⟨vs, e'⟩ := (S.pot a p).lst
      rw [h] at e'; cases e'
    · obtain ⟨⟨vs, e'⟩, _⟩ := S.owned p
      rw [h] at e'; cases e'
theorem Ext.refl : Ext σ env F P H env F P H where
  fF := fun _ h => h
  pP := fun _ h => h
  own := fun _ h => h
  slot := fun i fl d e => ⟨fl, d, e⟩
  keep := fun _ _ h _ _ => h
  newF := fun _ h => .inl h
  newP := fun _ h => .inl h
  trk := fun _ h => h
theorem Ext.trans (E : Ext σ env F P H env' F' P' H') (E' : Ext σ env' F' P' H' env'' F'' P'' H'') : Ext σ env F P H env'' F'' P'' H'' where
  fF := fun a h => E'.fF a (E.fF a h)
  pP := fun a h => E'.pP a (E.pP a h)
  own := fun a h => E.own a (E'.own a h)
  slot := fun i fl d e => by
    obtain ⟨fl1, d1, e1⟩ := E.slot i fl d e
    exact E'.slot i fl1 d1 e1
  keep := fun b o h p ow => by
    refine E'.keep b o (E.keep b o h p ow) (fun p' => ?_) (fun o' => ow (E.own b o'))
    rcases E.newP b p' with q | q
    · exact p q
    · rw [h] at q; cases q
  newF := fun a h => by
    rcases E'.newF a h with q | q | q
    · exact E.newF a q
    · cases e : H a with
      | none => exact .inr (.inl rfl)
      | some o => exact absurd q (E.trk a (by rw [e]; simp))
    · exact .inr (.inr (E.own a q))
  newP := fun a h => by
    rcases E'.newP a h with q | q
    · exact E.newP a q
    · cases e : H a with
      | none => exact .inr rfl
      | some o => exact absurd q (E.trk a (by rw [e]; simp))
  trk := fun b h => E'.trk b (E.trk b h)
theorem StR.le (S : StR K Z N F P env σ H) (h : N' ≤ N) : StR K Z N' F P env σ H :=
  { S with pot := fun a p => (S.pot a p).le h, nle := Nat.le_trans h S.nle }

theorem RV.ext (S : StR K Z N F P env σ H) (E : Ext σ env F P H env' F' P' H') {d : D} {v : V} (h : RV K F P H d v) : RV K F' P' H' d v := h.mono (E.mon S)
theorem RVs.ext (S : StR K Z N F P env σ H) (E : Ext σ env F P H env' F' P' H') {d : List D} {v : List V} (h : RVs K F P H d v) : RVs K F' P' H' d v := h.mono (E.mon S)
theorem RH.ext (S : StR K Z N F P env σ H) (E : Ext σ env F P H env' F' P' H') : ∀ {h : Hd} {v : V}, RH K Z F P env σ H h v → RH K Z F' P' env' σ H' h v
  | .val d, v, h => RV.ext S E (show RV K F P H d v from h)
  | .tmp d, v, h => by
    obtain ⟨a, e, ow, nf, np, no, h0⟩ := h
    obtain ⟨vs, ha⟩ := ow.lst_of
    refine ⟨a, e, ?_, fun f => ?_, fun p => ?_, fun o => no (E.own a o), h0⟩
    · cases d with
      | lst ds =>
        obtain ⟨vs, ha, r⟩ := ow
        exact ⟨vs, E.keep a _ ha np no, RVs.ext S E r⟩
      | _ => exact ow.elim
    · rcases E.newF a f with q | q | q
      · exact nf q
      · rw [ha] at q; cases q
      · exact no q
    · rcases E.newP a p with q | q
      · exact np q
      · rw [ha] at q; cases q
  | .slot i, v, h => by
    obtain ⟨e, fl, d, e2⟩ := h
    exact ⟨e, E.slot i fl d e2⟩

/-- a handle's content -/
theorem RH.rc (S : StR K Z N F P env σ H) : ∀ {h : Hd} {v : V} {d : D}, RH K Z F P env σ H h v → rs env h = some d → RC K F P H d v
  | .val d, v, d', h, e => by
    have e' : d = d' := Option.some.inj e
    subst e'
    exact .inl h
  | .tmp d, v, d', h, e => by
    have e' : d = d' := Option.some.inj e
    subst e'
    obtain ⟨a, e, ow, _⟩ := h
    exact .inr ⟨a, e, ow⟩
  | .slot i, v, d', h, e => by
    obtain ⟨e1, fl, d, e2⟩ := h
    have e3 : d = d' := by
      simp only [rs, e2] at e
      exact Option.some.inj e
    subst e3
    cases fl with
    | false =>
      obtain ⟨v', q1, q2⟩ := S.fz i d e2
      rw [e1] at q1; cases q1
      exact .inl q2
    | true =>
      obtain ⟨a, q1, q2, _⟩ := S.ow i d e2
      rw [e1] at q1; cases q1
      exact .inr ⟨a, rfl, q2⟩

theorem Own.mono (m : Mon K F P H F' P' H') {a : Addr} {d : D} (h : Own K F P H a d) (k : ∀ vs, H a = some (.lst vs) → H' a = some (.lst vs)) : Own K F' P' H' a d := by
  cases d with
  | lst ds => obtain ⟨vs, e, r⟩ := h; exact ⟨vs, k vs e, r.mono m⟩
  | _ => exact h.elim
theorem Own.rv {a : Addr} {d : D} (h : Own K F P H a d) (f : F a) : RV K F P H d (.ref a) := by
  cases d with
  | lst ds =>
    obtain ⟨vs, e, r⟩ := h
    simp only [RV]
    exact ⟨a, vs, rfl, f, e, r⟩
  | _ => exact h.elim
/-- one more frozen -/
def addF (F : Addr → Prop) (a : Addr) : Addr → Prop := fun b => F b ∨ b = a
theorem mon_addF {a : Addr} : Mon K F P H (addF F a) P H :=
  ⟨fun _ h => .inl h, fun _ h => h, fun _ _ h => h, fun _ _ _ h => h, fun _ _ _ h => h⟩
theorem set_self {env : Ev} {i : Nat} {x : Slot} (h : env[i]? = some x) : env.set i x = env := by
  apply List.ext_getElem?
  intro j
  by_cases hj : i = j
  · subst hj
    rw [List.getElem?_set_self (List.getElem?_eq_some_iff.mp h).1, h]
  · rw [List.getElem?_set_ne hj]
/-- freezing -/
theorem StR.addF {a : Addr} (S : StR K Z N F P env σ H) (ha : ∃ o, H a = some o) (np : ¬ P a) (no : ¬ Owned env σ a) (h0 : Z.H0 a = none) : StR K Z N (addF F a) P env σ H where
  len := S.len
  fz := fun i d e => by
    obtain ⟨v, e1, r⟩ := S.fz i d e
    exact ⟨v, e1, r.mono mon_addF⟩
  ow := fun i d e => by
    obtain ⟨b, e1, o, nf, np, h0⟩ := S.ow i d e
    refine ⟨b, e1, o.mono mon_addF fun _ h => h, fun z => ?_, np, h0⟩
    rcases z with z | z
    · exact nf z
    · subst z; exact no ⟨i, d, e, e1⟩
  inj := S.inj
  same := S.same
  frF := fun b h => by
    rcases h with h | h
    · exact S.frF b h
    · subst h; exact .inr h0
  frP := S.frP
  subF := fun b h => .inl (S.subF b h)
  subP := S.subP
  trF := fun b h => by
    rcases h with h | h
    · exact S.trF b h
    · subst h; exact ha
  pot := S.pot
  dis := fun b h => by
    rcases h with h | h
    · exact S.dis b h
    · subst h; exact np
  nle := S.nle
/-- a slot's flag is taken -/
theorem StR.unflag {i : Nat} {d : D} {a : Addr} (S : StR K Z N F P env σ H) (e : env[i]? = some (some (true, d))) (hσ : σ[i]? = some (some (.ref a))) : StR K Z N (Mi.addF F a) P (env.set i (some (false, d))) σ H ∧ RV K (Mi.addF F a) P H d (.ref a) ∧ (∀ b, Owned (env.set i (some (false, d))) σ b → Owned env σ b) := by
  have hi : i < env.length := (List.getElem?_eq_some_iff.mp e).1
  obtain ⟨b, e1, o, nf, np, h0⟩ := S.ow i d e
  rw [hσ] at e1; cases e1
  have sub : ∀ j x, (env.set i (some (false, d)))[j]? = some (some (true, x)) → env[j]? = some (some (true, x)) ∧ j ≠ i := fun j x q => by
    by_cases hj : i = j
    · subst hj; rw [List.getElem?_set_self hi] at q; cases q
    · rw [List.getElem?_set_ne hj] at q; exact ⟨q, fun z => hj z.symm⟩
  have rv : RV K (Mi.addF F a) P H d (.ref a) := (o.mono mon_addF fun _ h => h).rv (.inr rfl)
  refine ⟨?_, rv, ?_⟩
  · refine { len := by simpa using S.len, fz := fun j x q => ?_, ow := fun j x q => ?_, inj := fun j k x y q q' z => S.inj j k x y (sub j x q).1 (sub k y q').1 z, same := S.same, frF := ?_, frP := S.frP, subF := fun b h => .inl (S.subF b h), subP := S.subP, trF := ?_, pot := S.pot, dis := ?_, nle := S.nle }
    · by_cases hj : i = j
      · subst hj; rw [List.getElem?_set_self hi] at q; cases q
        exact ⟨_, hσ, rv⟩
      · rw [List.getElem?_set_ne hj] at q
        obtain ⟨v, e1, r⟩ := S.fz j x q
        exact ⟨v, e1, r.mono mon_addF⟩
    · obtain ⟨q1, q2⟩ := sub j x q
      obtain ⟨b, e1, o, nf, np, h0⟩ := S.ow j x q1
      refine ⟨b, e1, o.mono mon_addF fun _ h => h, fun z => ?_, np, h0⟩
      rcases z with z | z
      · exact nf z
      · subst z; exact q2 (S.inj j i x d q1 e (e1.trans hσ.symm))
    · intro b h
      rcases h with h | h
      · exact S.frF b h
      · subst h; exact .inr h0
    · intro b h
      rcases h with h | h
      · exact S.trF b h
      · subst h; obtain ⟨vs, q⟩ := o.lst_of; exact ⟨_, q⟩
    · intro b h
      rcases h with h | h
      · exact S.dis b h
      · subst h; exact np
  · rintro b ⟨j, x, q1, q2⟩
    exact ⟨j, x, (sub j x q1).1, q2⟩
theorem RH.freeze {e0 : Ev} {F0 P0 : Addr → Prop} {H0 : Hp} (E : Ext σ e0 F0 P0 H0 env F P H) (S : StR K Z N F P env σ H) : ∀ {h : Hd} {v : V} {d : D} {env' : Ev}, Young H0 h v → RH K Z F P env σ H h v → fz env h = some (d, env') →
    ∃ F', Ext σ e0 F0 P0 H0 env' F' P H ∧ StR K Z N F' P env' σ H ∧ RV K F' P H d v
  | .val d, v, d', env', y, h, e => by
    have e' := Option.some.inj e
    cases e'
    exact ⟨F, E, S, h⟩
  | .tmp d, v, d', env', y, h, e => by
    have e' := Option.some.inj e
    cases e'
    obtain ⟨a, e, ow, nf, np, no, h0⟩ := h
    obtain ⟨b, ye, y0⟩ := y
    subst e
    cases ye
    obtain ⟨vs, ha⟩ := ow.lst_of
    refine ⟨Mi.addF F a, ⟨fun b h => .inl (E.fF b h), E.pP, E.own, E.slot, E.keep, fun b h => ?_, E.newP, E.trk⟩, S.addF ⟨_, ha⟩ np no h0, (ow.mono mon_addF fun _ h => h).rv (.inr rfl)⟩
    rcases h with h | h
    · exact E.newF b h
    · subst h; exact .inr (.inl y0)
  | .slot i, v, d', env', y, h, e => by
    obtain ⟨e1, fl, d, e2⟩ := h
    simp only [Mi.fz, e2] at e
    cases e
    cases fl with
    | false =>
      rw [set_self e2]
      obtain ⟨v', q1, q2⟩ := S.fz i _ e2
      rw [e1] at q1; cases q1
      exact ⟨F, E, S, q2⟩
    | true =>
      obtain ⟨a, q1, o, _, np, h0⟩ := S.ow i _ e2
      rw [e1] at q1; cases q1
      obtain ⟨S', rv, sub⟩ := S.unflag e2 e1
      refine ⟨Mi.addF F a, ⟨fun b h => .inl (E.fF b h), E.pP, fun b h => E.own b (sub b h), fun j fl x q => ?_, E.keep, fun b h => ?_, E.newP, E.trk⟩, S', rv⟩
      · obtain ⟨fl', x', q'⟩ := E.slot j fl x q
        by_cases hj : i = j
        · subst hj
          exact ⟨false, _, List.getElem?_set_self (List.getElem?_eq_some_iff.mp e2).1⟩
        · exact ⟨fl', x', by rw [List.getElem?_set_ne hj]; exact q'⟩
      · rcases h with h | h
        · exact E.newF b h
        · subst h; exact .inr (.inr (E.own _ ⟨i, _, e2, e1⟩))
end
end Mi
set_option Elab.async false
set_option linter.all false
set_option maxRecDepth 100000
set_option maxHeartbeats 1000000
namespace Mi
open PySem PySem.Spec PyProof.Rows L2

theorem PE.imp {X : Cx} {e : Expr} {t t' : TE} (p : PE X e t) (h : ∀ σ H Q, t' σ H Q → t σ H Q) : PE X e t' := ⟨fun pins s σ H Q I hw => p.run pins s σ H Q I (h σ H Q hw)⟩
theorem PT.imp {X : Cx} {e : Expr} {t t' : TT} (p : PT X e t) (h : ∀ σ H Q, t' σ H Q → t σ H Q) : PT X e t' := ⟨fun pins s σ H Q I hw => p.run pins s σ H Q I (h σ H Q hw)⟩
theorem PA.imp {X : Cx} {e : List Expr} {t t' : TA} (p : PA X e t) (h : ∀ σ H Q, t' σ H Q → t σ H Q) : PA X e t' := ⟨fun pos pins s σ H Q I hw => p.run pos pins s σ H Q I (h σ H Q hw)⟩
theorem PS.imp {X : Cx} {e : Stmt} {t t' : TS} (p : PS X e t) (h : ∀ D σ H, t' D σ H → t D σ H) : PS X e t' := ⟨fun pins s σ H D I hw => p.run pins s σ H D I (h D σ H hw)⟩
theorem PSs.imp {X : Cx} {e : List Stmt} {t t' : TS} (p : PSs X e t) (h : ∀ D σ H, t' D σ H → t D σ H) : PSs X e t' := ⟨fun pins s σ H D I hw => p.run pins s σ H D I (h D σ H hw)⟩
theorem PE.or {X : Cx} {e : Expr} {t t' : TE} (p : PE X e t) (p' : PE X e t') : PE X e (fun σ H Q => t σ H Q ∨ t' σ H Q) := ⟨fun pins s σ H Q I hw => hw.elim (p.run pins s σ H Q I) (p'.run pins s σ H Q I)⟩

section
variable {K : PySem.W.Frag} {Z : Fr} {N N' N'' : Nat} {F P F' P' F'' P'' : Addr → Prop} {env env' env'' e0 : Ev} {σ : L2.St} {H H' H'' H0 : Hp} {F0 P0 : Addr → Prop}

/-! ### one more object -/
theorem StR.alloc {p : Addr} {o : HO} (S : StR K Z N F P env σ H) (hp : H p = none) : StR K Z N F P env σ (upd H p o) := by
  have nP : ¬ P p := fun q => by
    obtain ⟨vs, e⟩ := (S.pot p q).lst
    rw [hp] at e; cases e
  have nF : ¬ F p := fun q => by
    obtain ⟨o, e⟩ := S.trF p q
    rw [hp] at e; cases e
  have kp : ∀ b u, H b = some u → upd H p o b = some u := fun b u e => by rw [upd_ne (ne_of_none e hp)]; exact e
  have m : Mon K F P H F P (upd H p o) := ⟨fun _ h => h, fun _ h => h, fun a xs h => kp _ _ h, fun a xs _ h => kp _ _ h, fun a o u h => kp _ _ h⟩
  refine { len := S.len, fz := fun i d e => ?_, ow := fun i d e => ?_, inj := S.inj, same := fun b u e q => kp _ _ (S.same b u e q), frF := S.frF, frP := S.frP, subF := S.subF, subP := S.subP, trF := fun a h => ?_, pot := fun a h => ?_, dis := S.dis, nle := S.nle }
  · obtain ⟨v, e1, r⟩ := S.fz i d e
    exact ⟨v, e1, r.mono m⟩
  · obtain ⟨a, e1, ow, q⟩ := S.ow i d e
    exact ⟨a, e1, ow.mono m fun vs z => kp _ _ z, q⟩
  · obtain ⟨u, e⟩ := S.trF a h
    exact ⟨u, kp _ _ e⟩
  · have q := S.pot a h
    obtain ⟨vs, e⟩ := q.lst
    rw [kp _ _ e, ← e]; exact q
theorem Ext.alloc {p : Addr} {o : HO} (hp : H p = none) : Ext σ env F P H env F P (upd H p o) where
  fF := fun _ h => h
  pP := fun _ h => h
  own := fun _ h => h
  slot := fun i fl d e => ⟨fl, d, e⟩
  keep := fun b u e _ _ => by rw [upd_ne (ne_of_none e hp)]; exact e
  newF := fun _ h => .inl h
  newP := fun _ h => .inl h
  trk := fun b h => by
    unfold upd
    split
    · simp
    · exact h
theorem StR.noneF (S : StR K Z N F P env σ H) {p : Addr} (hp : H p = none) : ¬ F p ∧ ¬ P p ∧ ¬ Owned env σ p ∧ Z.H0 p = none := by
  refine ⟨fun q => ?_, fun q => ?_, fun q => ?_, ?_⟩
  · obtain ⟨o, e⟩ := S.trF p q
    rw [hp] at e; cases e
  · obtain ⟨vs, e⟩ := (S.pot p q).lst
    rw [hp] at e; cases e
  · obtain ⟨⟨vs, e⟩, _⟩ := S.owned q
    rw [hp] at e; cases e
  · cases e : Z.H0 p with
    | none => rfl
    | some o =>
      by_cases hP : P p
      · obtain ⟨vs, e⟩ := (S.pot p hP).lst
        rw [hp] at e; cases e
      · rw [S.same p o e hP] at hp; cases hp

/-! ### what an expression is to leave -/
def Post (K : PySem.W.Frag) (Z : Fr) (σ : L2.St) (e0 : Ev) (F0 P0 : Addr → Prop) (H0 : Hp) (Q : VK) (N' : Nat) (r : Hd × Ev) : Prop :=
  ∀ v H' F' P', Ext σ e0 F0 P0 H0 r.2 F' P' H' → StR K Z N' F' P' r.2 σ H' → RH K Z F' P' r.2 σ H' r.1 v → Young H0 r.1 v → Q v H'
theorem Young.back (E : Ext σ e0 F0 P0 H0 env F P H) : ∀ {h : Hd} {v : V}, Young H h v → Young H0 h v
  | .val _, _, _ => trivial
  | .slot _, _, _ => trivial
  | .tmp _, _, y => by
    obtain ⟨a, e, q⟩ := y
    refine ⟨a, e, ?_⟩
    cases z : H0 a with
    | none => rfl
    | some o => exact absurd q (E.trk a (by rw [z]; simp))
theorem Post.from {Q : VK} {r : Hd × Ev} (E : Ext σ e0 F0 P0 H0 env F P H) (h : Post K Z σ e0 F0 P0 H0 Q N' r) : Post K Z σ env F P H Q N' r :=
  fun v H' F' P' E' S' r' y' => h v H' F' P' (E.trans E') S' r' (y'.back E)
/-- a result by its form -/
def ResK (K : PySem.W.Frag) (F P : Addr → Prop) (H : Hp) (h : Hd) (Q : VK) : Prop :=
  match h with
  | .val d => (∀ v, RV K F P H d v → Q v H) ∧ (∀ p vs ds, d = .tup ds → RVs K F P H ds vs → H p = none → Q (.ref p) (upd H p (.tup vs)))
  | .tmp d => ∀ p ds vs, d = .lst ds → RVs K F P H ds vs → H p = none → Q (.ref p) (upd H p (.lst vs))
  | .slot _ => False
theorem RVs.alloc {p : Addr} {o : HO} {ds : List D} {vs : List V} (hp : H p = none) (h : RVs K F P H ds vs) : RVs K F P (upd H p o) ds vs := by
  have kp : ∀ b u, H b = some u → upd H p o b = some u := fun b u e => by rw [upd_ne (ne_of_none e hp)]; exact e
  exact h.mono ⟨fun _ h => h, fun _ h => h, fun a xs h => kp _ _ h, fun a xs _ h => kp _ _ h, fun a o u h => kp _ _ h⟩
theorem Post.res {Q : VK} {h : Hd} (S : StR K Z N F P env σ H) (hs : ∀ i, h ≠ .slot i) (q : Post K Z σ env F P H Q N (h, env)) : ResK K F P H h Q := by
  cases h with
  | slot i => exact (hs i rfl).elim
  | val d =>
    refine ⟨fun v r => q v H F P Ext.refl S r trivial, fun p vs ds e r hp => ?_⟩
    subst e
    refine q (.ref p) (upd H p (.tup vs)) F P (Ext.alloc hp) (S.alloc hp) ?_ trivial
    show RV K F P (upd H p (.tup vs)) (.tup ds) (.ref p)
    simp only [RV]
    exact ⟨p, vs, rfl, upd_same, r.alloc hp⟩
  | tmp d =>
    intro p ds vs e r hp
    subst e
    obtain ⟨nF, nP, nO, h0⟩ := S.noneF hp
    exact q (.ref p) (upd H p (.lst vs)) F P (Ext.alloc hp) (S.alloc hp) ⟨p, rfl, ⟨vs, upd_same, r.alloc hp⟩, nF, nP, nO, h0⟩ ⟨p, rfl, hp⟩

/-! ### names, constants -/
def eVar (i : Nat) : M := fun env => match env[i]? with
  | some (some (false, d)) => .ret (.val d, env)
  | some (some (true, _)) => .ret (.slot i, env)
  | _ => .fail
theorem eVar_ok {i : Nat} {Q : VK} (h : tM K Z (eVar i) σ H Q) : tVar i σ H Q := by
  obtain ⟨N, F, P, env, S, h⟩ := h
  unfold eVar at h
  split at h
  · rename_i d e
    obtain ⟨v, e1, r⟩ := S.fz i d e
    exact ⟨v, e1, h v H F P Ext.refl S r trivial⟩
  · rename_i d e
    obtain ⟨a, e1, _⟩ := S.ow i d e
    exact ⟨.ref a, e1, h (.ref a) H F P Ext.refl S ⟨e1, _, _, e⟩ trivial⟩
  · exact h.elim
def eC (d : D) : M := fun env => .ret (.val d, env)
theorem eC_ok {d : D} {v : V} {Q : VK} (hv : ∀ F P H, RV K F P H d v) (h : tM K Z (eC d) σ H Q) : tC v σ H Q := by
  obtain ⟨N, F, P, env, S, h⟩ := h
  exact h v H F P Ext.refl S (hv F P H) trivial

/-! ### two operands -/
def e2 (m1 m2 : M) (f : Ev → Hd → Hd → T (Hd × Ev)) : M := fun env => (m1 env).bind fun r1 => (m2 r1.2).bind fun r2 => f r2.2 r1.1 r2.1
def f2 (g : D → D → Option Hd) : Ev → Hd → Hd → T (Hd × Ev) := fun env h1 h2 => match rs env h1, rs env h2 with
  | some d1, some d2 => match g d1 d2 with
    | some h => .ret (h, env)
    | none => .fail
  | _, _ => .fail
def eOp (g : D → D → Option Hd) (m1 m2 : M) : M := e2 m1 m2 (f2 g)
/-- r is met where g tells -/
def Op2 (K : PySem.W.Frag) (r : R2) (g : D → D → Option Hd) : Prop := ∀ {F P : Addr → Prop} {H : Hp} {d1 d2 : D} {v1 v2 : V} {h : Hd} {Q : VK},
  RC K F P H d1 v1 → RC K F P H d2 v2 → g d1 d2 = some h → (∀ i, h ≠ .slot i) ∧ (ResK K F P H h Q → r v1 v2 H Q)
theorem eOp_ok {r : R2} {g : D → D → Option Hd} {m1 m2 : M} {Q : VK} (hr : Op2 K r g) (h : tM K Z (eOp g m1 m2) σ H Q) : tOp r (tM K Z m1) (tM K Z m2) σ H Q := by
  obtain ⟨N, F, P, env, S, h⟩ := h
  refine ⟨N, F, P, env, S, T.ok_mono (fun N1 r1 q1 => ?_) (T.ok_bind h)⟩
  intro v1 H1 F1 P1 E1 S1 R1 Y1
  refine ⟨N1, F1, P1, r1.2, S1, T.ok_mono (fun N2 r2 q2 => ?_) (T.ok_bind q1)⟩
  intro v2 H2 F2 P2 E2 S2 R2 Y2
  unfold f2 at q2
  split at q2
  · rename_i d1 d2 e1 e2
    split at q2
    · rename_i hd e3
      obtain ⟨ns, go⟩ := hr (Q := Q) ((R1.ext S1 E2).rc S2 e1) (R2.rc S2 e2) e3
      exact go (Post.res S2 ns (Post.from (E1.trans E2) q2))
    · exact q2.elim
  · exact q2.elim
def e1 (m1 : M) (f : Ev → Hd → T (Hd × Ev)) : M := fun env => (m1 env).bind fun r1 => f r1.2 r1.1
def f1 (g : D → Option Hd) : Ev → Hd → T (Hd × Ev) := fun env h1 => match rs env h1 with
  | some d1 => match g d1 with
    | some h => .ret (h, env)
    | none => .fail
  | _ => .fail
def eUn (g : D → Option Hd) (m1 : M) : M := e1 m1 (f1 g)
def Op1 (K : PySem.W.Frag) (r : V → Hp → VK → Prop) (g : D → Option Hd) : Prop := ∀ {F P : Addr → Prop} {H : Hp} {d1 : D} {v1 : V} {h : Hd} {Q : VK},
  RC K F P H d1 v1 → g d1 = some h → (∀ i, h ≠ .slot i) ∧ (ResK K F P H h Q → r v1 H Q)
theorem eUn_ok {r : V → Hp → VK → Prop} {g : D → Option Hd} {m1 : M} {Q : VK} (hr : Op1 K r g) (h : tM K Z (eUn g m1) σ H Q) : tUn r (tM K Z m1) σ H Q := by
  obtain ⟨N, F, P, env, S, h⟩ := h
  refine ⟨N, F, P, env, S, T.ok_mono (fun N1 r1 q1 => ?_) (T.ok_bind h)⟩
  intro v1 H1 F1 P1 E1 S1 R1 Y1
  unfold f1 at q1
  split at q1
  · rename_i d1 e1
    split at q1
    · rename_i hd e3
      obtain ⟨ns, go⟩ := hr (Q := Q) (R1.rc S1 e1) e3
      exact go (Post.res S1 ns (Post.from E1 q1))
    · exact q1.elim
  · exact q1.elim

/-! ### argument lists -/
abbrev MH := Ev → T (List Hd × Ev)
def RHs (K : PySem.W.Frag) (Z : Fr) (F P : Addr → Prop) (env : Ev) (σ : L2.St) (H : Hp) : List Hd → List V → Prop
  | [], vs => vs = []
  | h :: hs, vs => ∃ v vr, vs = v :: vr ∧ RH K Z F P env σ H h v ∧ RHs K Z F P env σ H hs vr
def Youngs (H : Hp) : List Hd → List V → Prop
  | h :: hs, v :: vs => Young H h v ∧ Youngs H hs vs
  | _, _ => True
/-- temporaries stand apart -/
def Apart : List Hd → List V → Prop
  | .tmp _ :: hs, v :: vs => (∀ i : Nat, (∃ d, hs[i]? = some (.tmp d)) → vs[i]? ≠ some v) ∧ Apart hs vs
  | _ :: hs, _ :: vs => Apart hs vs
  | _, _ => True
def tH (K : PySem.W.Frag) (Z : Fr) (m : MH) : TA := fun σ H Q => ∃ N F P env, StR K Z N F P env σ H ∧ (m env).ok N fun N' r =>
  ∀ vs H' F' P', Ext σ env F P H r.2 F' P' H' → StR K Z N' F' P' r.2 σ H' → RHs K Z F' P' r.2 σ H' r.1 vs → Youngs H r.1 vs → Apart r.1 vs → Q vs H'
def hNil : MH := fun env => .ret ([], env)
def hCons (m : M) (ms : MH) : MH := fun env => (m env).bind fun r1 => (ms r1.2).bind fun r2 => .ret (r1.1 :: r2.1, r2.2)
theorem hNil_ok {Q : List V → Hp → Prop} (h : tH K Z hNil σ H Q) : tNil σ H Q := by
  obtain ⟨N, F, P, env, S, h⟩ := h
  exact h [] H F P Ext.refl S rfl trivial trivial
theorem RHs.ext (S : StR K Z N F P env σ H) (E : Ext σ env F P H env' F' P' H') : ∀ {h : List Hd} {v : List V}, RHs K Z F P env σ H h v → RHs K Z F' P' env' σ H' h v
  | [], v, h => h
  | h :: hs, v, q => by
    obtain ⟨x, xr, e, r, rr⟩ := q
    exact ⟨x, xr, e, r.ext S E, RHs.ext S E rr⟩
theorem Youngs.back (E : Ext σ e0 F0 P0 H0 env F P H) : ∀ {h : List Hd} {v : List V}, Youngs H h v → Youngs H0 h v
  | [], _, _ => by cases ‹List V› <;> trivial
  | _ :: _, [], _ => trivial
  | _ :: _, _ :: _, y => ⟨y.1.back E, Youngs.back E y.2⟩
theorem Youngs.tmp {d : D} : ∀ {hs : List Hd} {vs : List V} {i : Nat} {v : V}, Youngs H hs vs → hs[i]? = some (.tmp d) → vs[i]? = some v → ∃ a, v = .ref a ∧ H a = none
  | [], _, _, _, _, e, _ => by simp at e
  | _ :: _, [], _, _, _, _, e => by simp at e
  | h :: hs, v :: vs, 0, w, y, e, e' => by
    simp at e e'
    subst e; subst e'
    exact y.1
  | h :: hs, v :: vs, i + 1, w, y, e, e' => Youngs.tmp (i := i) y.2 (by simpa using e) (by simpa using e')
theorem hCons_ok {m : M} {ms : MH} {Q : List V → Hp → Prop} (h : tH K Z (hCons m ms) σ H Q) : tCons (tM K Z m) (tH K Z ms) σ H Q := by
  obtain ⟨N, F, P, env, S, h⟩ := h
  refine ⟨N, F, P, env, S, T.ok_mono (fun N1 r1 q1 => ?_) (T.ok_bind h)⟩
  intro v1 H1 F1 P1 E1 S1 R1 Y1
  refine ⟨N1, F1, P1, r1.2, S1, T.ok_mono (fun N2 r2 q2 => ?_) (T.ok_bind q1)⟩
  intro v2 H2 F2 P2 E2 S2 R2 Y2 A2
  refine q2 (v1 :: v2) H2 F2 P2 (E1.trans E2) S2 ⟨v1, v2, rfl, R1.ext S1 E2, R2⟩ ⟨Y1, Y2.back E1⟩ ?_
  cases h1 : r1.1 with
  | val d => exact A2
  | slot i => exact A2
  | tmp d =>
    refine ⟨fun i ⟨d', e⟩ z => ?_, A2⟩
    obtain ⟨a, ea, ha⟩ := Y2.tmp e z
    rw [h1] at R1
    obtain ⟨b, eb, ow, _⟩ := R1
    obtain ⟨vs, hb⟩ := ow.lst_of
    rw [ea] at eb
    cases eb
    rw [hb] at ha; cases ha
/-- contents -/
def rss (e : Ev) : List Hd → Option (List D)
  | [] => some []
  | h :: hs => match rs e h, rss e hs with
    | some d, some ds => some (d :: ds)
    | _, _ => none
def RCs (K : PySem.W.Frag) (F P : Addr → Prop) (H : Hp) : List D → List V → Prop
  | [], vs => vs = []
  | d :: ds, vs => ∃ v vr, vs = v :: vr ∧ RC K F P H d v ∧ RCs K F P H ds vr
theorem RHs.rcs (S : StR K Z N F P env σ H) : ∀ {hs : List Hd} {vs : List V} {ds : List D}, RHs K Z F P env σ H hs vs → rss env hs = some ds → RCs K F P H ds vs
  | [], vs, ds, h, e => by cases e; exact h
  | h :: hs, vs, ds, q, e => by
    obtain ⟨v, vr, ev, r, rr⟩ := q
    unfold rss at e
    split at e
    · rename_i d ds' e1 e2
      cases e
      exact ⟨v, vr, ev, r.rc S e1, RHs.rcs S rr e2⟩
    · cases e
def fzs (e : Ev) : List Hd → Option (List D × Ev)
  | [] => some ([], e)
  | h :: hs => match fz e h with
    | some (d, e') => match fzs e' hs with
      | some (ds, e'') => some (d :: ds, e'')
      | none => none
    | none => none
/-- a handle, but for what may be frozen already -/
def RHw (K : PySem.W.Frag) (Z : Fr) (F P : Addr → Prop) (env : Ev) (σ : L2.St) (H : Hp) : Hd → V → Prop
  | .val d, v => RV K F P H d v
  | .tmp d, v => ∃ a, v = .ref a ∧ Own K F P H a d ∧ ¬ P a ∧ ¬ Owned env σ a ∧ Z.H0 a = none
  | .slot i, v => σ[i]? = some (some v) ∧ ∃ fl d, env[i]? = some (some (fl, d))
theorem RH.w : ∀ {h : Hd} {v : V}, RH K Z F P env σ H h v → RHw K Z F P env σ H h v
  | .val d, v, h => h
  | .tmp d, v, ⟨a, e, o, _, q⟩ => ⟨a, e, o, q⟩
  | .slot i, v, h => h
def RHsw (K : PySem.W.Frag) (Z : Fr) (F P : Addr → Prop) (env : Ev) (σ : L2.St) (H : Hp) : List Hd → List V → Prop
  | [], vs => vs = []
  | h :: hs, vs => ∃ v vr, vs = v :: vr ∧ RHw K Z F P env σ H h v ∧ RHsw K Z F P env σ H hs vr
theorem RHs.w : ∀ {h : List Hd} {v : List V}, RHs K Z F P env σ H h v → RHsw K Z F P env σ H h v
  | [], v, h => h
  | h :: hs, v, ⟨x, xr, e, r, rr⟩ => ⟨x, xr, e, r.w, RHs.w rr⟩
theorem RHw.freeze (E : Ext σ e0 F0 P0 H0 env F P H) (S : StR K Z N F P env σ H) : ∀ {h : Hd} {v : V} {d : D} {env' : Ev}, Young H0 h v → RHw K Z F P env σ H h v → fz env h = some (d, env') →
    ∃ F', Ext σ e0 F0 P0 H0 env' F' P H ∧ StR K Z N F' P env' σ H ∧ RV K F' P H d v ∧ Mon K F P H F' P H ∧ (∀ b, Owned env' σ b → Owned env σ b) ∧
      ∀ (i : Nat) fl x, env[i]? = some (some (fl, x)) → ∃ fl x, env'[i]? = some (some (fl, x))
  | .val d, v, d', env', y, h, e => by
    have e' := Option.some.inj e
    cases e'
    exact ⟨F, E, S, h, ⟨fun _ h => h, fun _ h => h, fun _ _ h => h, fun _ _ _ h => h, fun _ _ _ h => h⟩, fun _ h => h, fun i fl x e => ⟨fl, x, e⟩⟩
  | .tmp d, v, d', env', y, h, e => by
    have e' := Option.some.inj e
    cases e'
    obtain ⟨a, e, ow, np, no, h0⟩ := h
    obtain ⟨b, ye, y0⟩ := y
    subst e
    cases ye
    obtain ⟨vs, ha⟩ := ow.lst_of
    refine ⟨addF F a, ⟨fun b h => .inl (E.fF b h), E.pP, E.own, E.slot, E.keep, fun b h => ?_, E.newP, E.trk⟩, S.addF ⟨_, ha⟩ np no h0, (ow.mono mon_addF fun _ h => h).rv (.inr rfl), mon_addF, fun _ h => h, fun i fl x e => ⟨fl, x, e⟩⟩
    rcases h with h | h
    · exact E.newF b h
    · subst h; exact .inr (.inl y0)
  | .slot i, v, d', env', y, h, e => by
    obtain ⟨e1, fl, d, e2⟩ := h
    simp only [Mi.fz, e2] at e
    cases e
    have sl : ∀ (j : Nat) fl x, env[j]? = some (some (fl, x)) → ∃ fl x, (env.set i (some (false, d')))[j]? = some (some (fl, x)) := fun j fl x q => by
      by_cases hj : i = j
      · subst hj
        exact ⟨false, _, List.getElem?_set_self (List.getElem?_eq_some_iff.mp e2).1⟩
      · exact ⟨fl, x, by rw [List.getElem?_set_ne hj]; exact q⟩
    cases fl with
    | false =>
      rw [set_self e2]
      obtain ⟨v', q1, q2⟩ := S.fz i _ e2
      rw [e1] at q1; cases q1
      exact ⟨F, E, S, q2, ⟨fun _ h => h, fun _ h => h, fun _ _ h => h, fun _ _ _ h => h, fun _ _ _ h => h⟩, fun _ h => h, fun i fl x e => ⟨fl, x, e⟩⟩
    | true =>
      obtain ⟨a, q1, o, _, np, h0⟩ := S.ow i _ e2
      rw [e1] at q1; cases q1
      obtain ⟨S', rv, sub⟩ := S.unflag e2 e1
      refine ⟨addF F a, ⟨fun b h => .inl (E.fF b h), E.pP, fun b h => E.own b (sub b h), fun j fl x q => ?_, E.keep, fun b h => ?_, E.newP, E.trk⟩, S', rv, mon_addF, sub, sl⟩
      · obtain ⟨fl', x', q'⟩ := E.slot j fl x q
        exact sl j fl' x' q'
      · rcases h with h | h
        · exact E.newF b h
        · subst h; exact .inr (.inr (E.own _ ⟨i, _, e2, e1⟩))
theorem RHsw.re (m : Mon K F P H F' P H) (ow : ∀ b, Owned env' σ b → Owned env σ b) (sl : ∀ (i : Nat) fl x, env[i]? = some (some (fl, x)) → ∃ fl x, env'[i]? = some (some (fl, x))) :
    ∀ {hs : List Hd} {vs : List V}, RHsw K Z F P env σ H hs vs → RHsw K Z F' P env' σ H hs vs
  | [], vs, h => h
  | h :: hs, vs, ⟨v, vr, e, r, rr⟩ => by
    refine ⟨v, vr, e, ?_, RHsw.re m ow sl rr⟩
    cases h with
    | val d => exact RV.mono m d v r
    | tmp d =>
      obtain ⟨a, e, o, np, no, h0⟩ := r
      exact ⟨a, e, o.mono m fun _ h => h, np, fun z => no (ow a z), h0⟩
    | slot i =>
      obtain ⟨e1, fl, d, e2⟩ := r
      exact ⟨e1, sl i fl d e2⟩
theorem RHsw.freeze : ∀ {hs : List Hd} {vs : List V} {ds : List D} {env env' : Ev} {F : Addr → Prop}, Ext σ e0 F0 P0 H0 env F P H → StR K Z N F P env σ H → Youngs H0 hs vs → RHsw K Z F P env σ H hs vs → fzs env hs = some (ds, env') →
    ∃ F', Ext σ e0 F0 P0 H0 env' F' P H ∧ StR K Z N F' P env' σ H ∧ RVs K F' P H ds vs ∧ Mon K F P H F' P H
  | [], vs, ds, env, env', F, E, S, y, r, e => by
    cases e
    have r' : vs = [] := r
    subst r'
    exact ⟨F, E, S, .nil, ⟨fun _ h => h, fun _ h => h, fun _ _ h => h, fun _ _ _ h => h, fun _ _ _ h => h⟩⟩
  | h :: hs, vs, ds, env, env', F, E, S, y, r, e => by
    obtain ⟨v, vr, rfl, r1, rr⟩ := r
    unfold fzs at e
    split at e
    · rename_i d env1 q1
      split at e
      · rename_i ds1 env2 q2
        cases e
        obtain ⟨F1, E1, S1, rv1, m1, ow1, sl1⟩ := RHw.freeze E S y.1 r1 q1
        obtain ⟨F2, E2, S2, rv2, m2⟩ := RHsw.freeze E1 S1 y.2 (rr.re m1 ow1 sl1) q2
        exact ⟨F2, E2, S2, .cons (rv1.mono m2) rv2, ⟨fun a h => m2.fF a (m1.fF a h), fun a h => m2.pP a (m1.pP a h), fun a xs h => m2.tup a xs (m1.tup a xs h), fun a xs f h => m2.lst a xs (m1.fF a f) (m1.lst a xs f h), fun a o u h => m2.frz a o u (m1.frz a o u h)⟩⟩
      · cases e
    · cases e
theorem RHs.freeze {hs : List Hd} {vs : List V} {ds : List D} (E : Ext σ e0 F0 P0 H0 env F P H) (S : StR K Z N F P env σ H) (y : Youngs H0 hs vs) (r : RHs K Z F P env σ H hs vs) (e : fzs env hs = some (ds, env')) :
    ∃ F', Ext σ e0 F0 P0 H0 env' F' P H ∧ StR K Z N F' P env' σ H ∧ RVs K F' P H ds vs :=
  let ⟨F', E', S', r', _⟩ := RHsw.freeze E S y r.w e
  ⟨F', E', S', r'⟩
theorem RHs.freeze' {hs : List Hd} {vs : List V} {ds : List D} (E : Ext σ e0 F0 P0 H0 env F P H) (S : StR K Z N F P env σ H) (y : Youngs H0 hs vs) (r : RHs K Z F P env σ H hs vs) (e : fzs env hs = some (ds, env')) :
    ∃ F', Ext σ e0 F0 P0 H0 env' F' P H ∧ StR K Z N F' P env' σ H ∧ RVs K F' P H ds vs ∧ ∀ a, F a → F' a :=
  let ⟨F', E', S', r', m⟩ := RHsw.freeze E S y r.w e
  ⟨F', E', S', r', m.fF⟩

/-! ### a call by values: contents in, a result out -/
def eCall (ms : MH) (g : List D → Option Hd) : M := fun env => (ms env).bind fun r => match rss r.2 r.1 with
  | some ds => match g ds with
    | some h => .ret (h, r.2)
    | none => .fail
  | none => .fail
def OpN (K : PySem.W.Frag) (r : List V → Hp → VK → Prop) (g : List D → Option Hd) : Prop := ∀ {F P : Addr → Prop} {H : Hp} {ds : List D} {vs : List V} {h : Hd} {Q : VK},
  RCs K F P H ds vs → g ds = some h → (∀ i, h ≠ .slot i) ∧ (ResK K F P H h Q → r vs H Q)
theorem eCall_ok {r : List V → Hp → VK → Prop} {g : List D → Option Hd} {ms : MH} {Q : VK} (hr : OpN K r g) (h : tM K Z (eCall ms g) σ H Q) : tCB r (tH K Z ms) σ H Q := by
  obtain ⟨N, F, P, env, S, h⟩ := h
  refine ⟨N, F, P, env, S, T.ok_mono (fun N1 r1 q1 => ?_) (T.ok_bind h)⟩
  intro vs H1 F1 P1 E1 S1 R1 Y1 A1
  split at q1
  · rename_i ds e1
    split at q1
    · rename_i hd e3
      obtain ⟨ns, go⟩ := hr (Q := Q) (R1.rcs S1 e1) e3
      exact go (Post.res S1 ns (Post.from E1 q1))
    · exact q1.elim
  · exact q1.elim
/-! ### displays -/
def eTup (ms : MH) : M := fun env => (ms env).bind fun r => match fzs r.2 r.1 with
  | some (ds, env') => .ret (.val (.tup ds), env')
  | none => .fail
def eLst (ms : MH) : M := fun env => (ms env).bind fun r => match fzs r.2 r.1 with
  | some (ds, env') => .ret (.tmp (.lst ds), env')
  | none => .fail
def HLen (n : Nat) (ms : MH) : Prop := ∀ (env : Ev) (N : Nat) (Q : Nat → List Hd × Ev → Prop), (ms env).ok N Q → (ms env).ok N fun N' r => r.1.length = n ∧ Q N' r
theorem hNil_len : HLen 0 hNil := fun env N Q h => ⟨rfl, h⟩
theorem hCons_len {n : Nat} {m : M} {ms : MH} (h : HLen n ms) : HLen (n + 1) (hCons m ms) := fun env N Q q => by
  refine T.bind_ok (T.ok_mono (fun N1 r1 q1 => ?_) (T.ok_bind q))
  exact T.bind_ok (T.ok_mono (fun N2 r2 q2 => ⟨by simp [q2.1], q2.2⟩) (h _ _ _ (T.ok_bind q1)))
theorem RHs.length : ∀ {hs : List Hd} {vs : List V}, RHs K Z F P env σ H hs vs → vs.length = hs.length
  | [], vs, h => by have h' : vs = [] := h; subst h'; rfl
  | h :: hs, vs, ⟨v, vr, e, r, rr⟩ => by subst e; simp [RHs.length rr]
theorem eTup_ok {ms : MH} {n : Nat} {Q : VK} (hn : HLen n ms) (hz : n ≤ sizeLine) (h : tM K Z (eTup ms) σ H Q) : tTup (tH K Z ms) σ H Q := by
  obtain ⟨N, F, P, env, S, h⟩ := h
  refine ⟨N, F, P, env, S, T.ok_mono (fun N1 r1 ⟨l1, q1⟩ => ?_) (hn _ _ _ (T.ok_bind h))⟩
  intro vs H1 F1 P1 E1 S1 R1 Y1 A1
  split at q1
  · rename_i ds env1 e1
    obtain ⟨F2, E2, S2, rv⟩ := R1.freeze E1 S1 Y1 e1
    refine ⟨by rw [R1.length, l1]; exact hz, fun p hp => ?_⟩
    refine q1 (.ref p) _ F2 P1 (E2.trans (Ext.alloc hp)) (S2.alloc hp) ?_ trivial
    show RV K F2 P1 (upd H1 p (.tup vs)) (.tup ds) (.ref p)
    simp only [RV]
    exact ⟨p, vs, rfl, upd_same, rv.alloc hp⟩
  · exact q1.elim
theorem eLst_ok {ms : MH} {n : Nat} {Q : VK} (hn : HLen n ms) (hz : n ≤ sizeLine) (h : tM K Z (eLst ms) σ H Q) : tLst (tH K Z ms) σ H Q := by
  obtain ⟨N, F, P, env, S, h⟩ := h
  refine ⟨N, F, P, env, S, T.ok_mono (fun N1 r1 ⟨l1, q1⟩ => ?_) (hn _ _ _ (T.ok_bind h))⟩
  intro vs H1 F1 P1 E1 S1 R1 Y1 A1
  split at q1
  · rename_i ds env1 e1
    obtain ⟨F2, E2, S2, rv⟩ := R1.freeze E1 S1 Y1 e1
    refine ⟨by rw [R1.length, l1]; exact hz, fun p hp => ?_⟩
    obtain ⟨nF, nP, nO, h0⟩ := S2.noneF hp
    refine q1 (.ref p) _ F2 P1 (E2.trans (Ext.alloc hp)) (S2.alloc hp) ⟨p, rfl, ⟨vs, upd_same, rv.alloc hp⟩, nF, nP, nO, h0⟩ ?_
    exact Young.back (h := .tmp (.lst ds)) E2 ⟨p, rfl, hp⟩
  · exact q1.elim

/-! ### a call of a def -/
structure WOk (N : Nat) (F P : Addr → Prop) (H : Hp) : Prop where
  trF : ∀ a, F a → ∃ o, H a = some o
  pot : ∀ a, P a → PotOk N (H a)
  dis : ∀ a, F a → ¬ P a
  nle : N ≤ LIM
structure CExt (F P : Addr → Prop) (H : Hp) (F' P' : Addr → Prop) (H' : Hp) : Prop where
  fF : ∀ a, F a → F' a
  pP : ∀ a, P a → P' a
  keep : ∀ b o, H b = some o → ¬ P b → H' b = some o
  newF : ∀ a, F' a → F a ∨ H a = none
  newP : ∀ a, P' a → P a ∨ H a = none
def spM (K : PySem.W.Frag) (g : List D → T D) (np : Nat) : Sp := fun vs H Q _ => ∃ N F P ds, vs.length = np ∧ RVs K F P H ds vs ∧ WOk N F P H ∧ (g ds).ok N fun N' d =>
  ∀ v H' F' P', CExt F P H F' P' H' → WOk N' F' P' H' → RV K F' P' H' d v → Q v H'
mutual
/-- no list within -/
def lf : D → Bool
  | .lst _ => false
  | .dic _ => false
  | .tup ds => lfs ds
  | .rep _ => true
  | _ => true
def lfs : List D → Bool
  | [] => true
  | d :: ds => lf d && lfs ds
end
mutual
theorem lf_rv (pP : ∀ a, P a → P' a) : ∀ (d : D) (v : V), lf d = true → RV K F P H d v → RV K F' P' H d v
  | .non, v, _, h => by simp only [RV] at h ⊢; exact h
  | .bl b, v, _, h => by simp only [RV] at h ⊢; exact h
  | .int i, v, _, h => by simp only [RV] at h ⊢; exact h
  | .str s, v, _, h => by simp only [RV] at h ⊢; exact h
  | .tup ds, v, l, h => by
    simp only [RV] at h ⊢
    obtain ⟨a, vs, e, q, r⟩ := h
    exact ⟨a, vs, e, q, lfs_rv pP ds vs (by simpa [lf] using l) r⟩
  | .lst ds, v, l, h => by simp [lf] at l
  | .dic _, v, l, h => by simp [lf] at l
  | .pot, v, _, h => by
    simp only [RV] at h ⊢
    obtain ⟨a, e, p⟩ := h
    exact ⟨a, e, pP a p⟩
  | .scr ns, v, _, h => by simp only [RV] at h ⊢; exact h
  | .rep _, v, _, h => by simp only [RV] at h
theorem lfs_rv (pP : ∀ a, P a → P' a) : ∀ (ds : List D) (vs : List V), lfs ds = true → RVs K F P H ds vs → RVs K F' P' H ds vs
  | [], vs, _, h => by simp only [RVs] at h ⊢; exact h
  | d :: ds, vs, l, h => by
    simp only [RVs] at h ⊢
    simp only [lfs, Bool.and_eq_true] at l
    obtain ⟨v, vr, e, q, r⟩ := h
    exact ⟨v, vr, e, lf_rv pP d v l.1 q, lfs_rv pP ds vr l.2 r⟩
end
def eDef (g : List D → T D) (ms : MH) : M := fun env => (ms env).bind fun r => match fzs r.2 r.1 with
  | some (ds, env') => (g ds).bind fun d => .ret (.val d, if lf d = true then r.2 else env')
  | none => .fail
theorem StR.wok (S : StR K Z N F P env σ H) : WOk N F P H := ⟨S.trF, S.pot, S.dis, S.nle⟩
theorem CExt.mon (W : WOk N F P H) (E : CExt F P H F' P' H') : Mon K F P H F' P' H' where
  fF := E.fF
  pP := E.pP
  tup := fun a xs h => by
    refine E.keep _ _ h fun p => ?_
    obtain ⟨vs, e'⟩ := (W.pot a p).lst
    rw [h] at e'; cases e'
  lst := fun a xs f h => by
    exact E.keep _ _ h (W.dis a f)
  frz := fun a o u h => by
    refine E.keep _ _ h fun p => ?_
    obtain ⟨vs, e'⟩ := (W.pot a p).lst
    rw [h] at e'; cases e'
/-- the caller's frame behind a call -/
theorem StR.after (S : StR K Z N F P env σ H) (E : CExt F P H F' P' H') (W : WOk N' F' P' H') : StR K Z N' F' P' env σ H' ∧ Ext σ env F P H env F' P' H' := by
  have m : Mon K F P H F' P' H' := E.mon S.wok
  have pk : ∀ b, P b → H' b ≠ none := fun b p z => by
    obtain ⟨vs, e⟩ := (W.pot b (E.pP b p)).lst
    rw [z] at e; cases e
  refine ⟨{ len := S.len, fz := fun i d e => ?_, ow := fun i d e => ?_, inj := S.inj, same := fun b o h p => ?_, frF := fun a h => ?_, frP := fun a h => ?_, subF := fun a h => E.fF a (S.subF a h), subP := fun a h => E.pP a (S.subP a h), trF := W.trF, pot := W.pot, dis := W.dis, nle := W.nle }, ?_⟩
  · obtain ⟨v, e1, r⟩ := S.fz i d e
    exact ⟨v, e1, r.mono m⟩
  · obtain ⟨a, e1, o, nf, np, h0⟩ := S.ow i d e
    obtain ⟨vs, ha⟩ := o.lst_of
    refine ⟨a, e1, o.mono m fun vs z => E.keep a _ z np, fun z => ?_, fun z => ?_, h0⟩
    · rcases E.newF a z with q | q
      · exact nf q
      · rw [ha] at q; cases q
    · rcases E.newP a z with q | q
      · exact np q
      · rw [ha] at q; cases q
  · have np : ¬ P b := fun z => p (E.pP b z)
    exact E.keep b o (S.same b o h np) np
  · rcases E.newF a h with q | q
    · exact S.frF a q
    · exact .inr (S.noneF q).2.2.2
  · rcases E.newP a h with q | q
    · exact S.frP a q
    · exact .inr (S.noneF q).2.2.2
  · refine ⟨E.fF, E.pP, fun _ h => h, fun i fl d e => ⟨fl, d, e⟩, fun b o h p _ => E.keep b o h p, fun a h => ?_, E.newP, fun b h => ?_⟩
    · rcases E.newF a h with q | q
      · exact .inl q
      · exact .inr (.inl q)
    · by_cases p : P b
      · exact pk b p
      · cases e : H b with
        | none => exact absurd e h
        | some o => rw [E.keep b o e p]; simp
end
end Mi
set_option Elab.async false
set_option linter.all false
set_option maxRecDepth 100000
set_option maxHeartbeats 1000000
namespace Mi
open PySem PySem.Spec PyProof.Rows L2

section
variable {K : PySem.W.Frag} {Z : Fr} {N N' N'' : Nat} {F P F' P' F'' P'' : Addr → Prop} {env env' env'' e0 : Ev} {σ : L2.St} {H H' H'' H0 : Hp} {F0 P0 : Addr → Prop}

theorem eDef_ok {g : List D → T D} {np : Nat} {ms : MH} {Q : VK} {E : XK} (hn : HLen np ms) (h : tM K Z (eDef g ms) σ H Q) : tCall (spM K g np) [] E (tH K Z ms) σ H Q := by
  obtain ⟨N, F, P, env, S, h⟩ := h
  refine ⟨N, F, P, env, S, T.ok_mono (fun N1 r1 ⟨l1, q1⟩ => ?_) (hn _ _ _ (T.ok_bind h))⟩
  intro vs H1 F1 P1 E1 S1 R1 Y1 A1
  split at q1
  · rename_i ds env1 e1
    obtain ⟨F2, E2, S2, rv, m12⟩ := R1.freeze' E1 S1 Y1 e1
    rw [List.append_nil]
    refine ⟨N1, F2, P1, ds, by rw [R1.length, l1], rv, S2.wok, T.ok_mono (fun N2 d q2 => ?_) (T.ok_bind q1)⟩
    intro v H3 F3 P3 C3 W3 rv3
    obtain ⟨S3, E3⟩ := S2.after C3 W3
    have E23 := E2.trans E3
    by_cases hl : lf d = true
    · rw [if_pos hl] at q2
      have nO : ∀ a, F1 a → ¬ Owned r1.2 σ a := fun a f o => (S1.owned o).2.1 f
      let F4 : Addr → Prop := fun a => F3 a ∧ ¬ Owned r1.2 σ a
      have f14 : ∀ a, F1 a → F4 a := fun a f => ⟨C3.fF a (m12 a f), nO a f⟩
      have kp : ∀ b o, H1 b = some o → ¬ P1 b → H3 b = some o := C3.keep
      have m14 : Mon K F1 P1 H1 F4 P3 H3 := ⟨f14, C3.pP, (CExt.mon (K := K) S2.wok C3).tup, fun a xs f h => (CExt.mon (K := K) S2.wok C3).lst a xs (m12 a f) h, (CExt.mon (K := K) S2.wok C3).frz⟩
      have S4 : StR K Z N2 F4 P3 r1.2 σ H3 := { len := S1.len, fz := fun i x e => ?_, ow := fun i x e => ?_, inj := S1.inj, same := S3.same, frF := fun a h => S3.frF a h.1, frP := S3.frP, subF := fun a h => f14 a (S1.subF a h), subP := S3.subP, trF := fun a h => S3.trF a h.1, pot := S3.pot, dis := fun a h => S3.dis a h.1, nle := S3.nle }
      · refine q2 v H3 F4 P3 ⟨fun a h => f14 a (E1.fF a h), E23.pP, E1.own, E1.slot, E23.keep, fun a h => E23.newF a h.1, E23.newP, E23.trk⟩ S4 ?_ trivial
        have rv3' : RV K F3 P3 H3 d v := rv3
        exact lf_rv (fun _ h => h) d v hl rv3'
      · obtain ⟨w, e2, r⟩ := S1.fz i x e
        exact ⟨w, e2, r.mono m14⟩
      · obtain ⟨a, e2, o, nf, np', h0⟩ := S1.ow i x e
        obtain ⟨ws, ha⟩ := o.lst_of
        refine ⟨a, e2, o.mono m14 fun zs z => kp a _ z np', fun z => z.2 ⟨i, x, e, e2⟩, fun z => ?_, h0⟩
        rcases C3.newP a z with q | q
        · exact np' q
        · rw [ha] at q; cases q
    · rw [if_neg hl] at q2
      exact q2 v H3 F3 P3 E23 S3 rv3 trivial
  · exact q1.elim

/-! ### a def -/
def startM (n : Nat) (ds : List D) : Ev := ds.map (fun d => some (false, d)) ++ List.replicate (n - ds.length) none
def mkFn (n np : Nat) (body : MS) : List D → T D := fun ds => if ds.length = np then (body (startM n ds)).bind fun r => match r.1 with
  | .rt d => .ret d
  | .nx => .ret .non
  | _ => .fail
  else .fail
theorem startM_get {n : Nat} {ds : List D} {i : Nat} {fl : Bool} {d : D} (e : (startM n ds)[i]? = some (some (fl, d))) : fl = false ∧ ds[i]? = some d := by
  unfold startM at e
  by_cases hi : i < ds.length
  · rw [List.getElem?_append_left (by simpa using hi), List.getElem?_map, List.getElem?_eq_getElem hi] at e
    have e' : (false, ds[i]) = (fl, d) := Option.some.inj (Option.some.inj e)
    cases e'
    exact ⟨rfl, List.getElem?_eq_getElem hi⟩
  · rw [List.getElem?_append_right (by simpa using hi), List.getElem?_replicate] at e
    split at e <;> cases e
theorem start_get {Nm : List Str} {vs : List V} {i : Nat} {v : V} (e : vs[i]? = some v) : (L2.start Nm vs)[i]? = some (some v) := by
  have hi := (List.getElem?_eq_some_iff.mp e).1
  unfold L2.start
  rw [List.getElem?_append_left (by simpa using hi), List.getElem?_map, e]
  rfl
theorem StR.start {Nm : List Str} {ds : List D} {vs : List V} (W : WOk N F P H) (r : RVs K F P H ds vs) : StR K ⟨H, F, P⟩ N F P (startM Nm.length ds) (L2.start Nm vs) H where
  len := by simp [startM, L2.start, r.length]
  fz := fun i d e => by
    obtain ⟨_, e1⟩ := startM_get e
    obtain ⟨v, e2, q⟩ := r.get e1
    exact ⟨v, start_get e2, q⟩
  ow := fun i d e => by
    obtain ⟨z, _⟩ := startM_get e
    cases z
  inj := fun i j d d' e => by
    obtain ⟨z, _⟩ := startM_get e
    cases z
  same := fun _ _ h _ => h
  frF := fun _ h => .inl h
  frP := fun _ h => .inl h
  subF := fun _ h => h
  subP := fun _ h => h
  trF := W.trF
  pot := W.pot
  dis := W.dis
  nle := W.nle
theorem StR.cext (W : WOk N F P H) (S : StR K ⟨H, F, P⟩ N' F' P' env σ H') : CExt F P H F' P' H' where
  fF := S.subF
  pP := S.subP
  keep := fun b o h p => S.same b o h fun p' => by
    rcases S.frP b p' with q | q
    · exact p q
    · have q' : H b = none := q
      rw [h] at q'; cases q'
  newF := S.frF
  newP := S.frP
theorem mkFn_ok {Nm : List Str} {np : Nat} {body : MS} {vs : List V} {Q : VK} {E : XK} (h : spM K (mkFn Nm.length np body) np vs H Q E) :
    ∃ Z, sM K Z body { nx := fun _ H' => Q .non H', rt := Q } (L2.start Nm vs) H := by
  obtain ⟨N, F, P, ds, hl, r, W, h⟩ := h
  refine ⟨⟨H, F, P⟩, N, F, P, startM Nm.length ds, StR.start W r, ?_⟩
  unfold mkFn at h
  split at h
  · refine T.ok_mono (fun N1 r1 q => ?_) (T.ok_bind h)
    intro σ' H' F' P' _ S
    split at q
    · rename_i d e
      rw [e]
      exact fun v rv => q v H' F' P' (S.cext W) S.wok rv
    · rename_i e
      rw [e]
      exact q .non H' F' P' (S.cext W) S.wok (by simp only [RV])
    · exact q.elim
  · exact h.elim
theorem fn_okM {Pg : Program} {w : World} {mg : Str → Option Value} {base : Heap} {x qual : Str} {st : Stmt} {f : Addr} {fd : FuncData} {Nm ps : List Str} {k : Nat} {body : MS} (Fn : Fun K x qual st f fd) (Sc : FnScope Nm ps (defScope st))
    (hb : ∀ (cdv : Value) (A : Around) (outer : List Env) (s : Shared) (H : Hp) (E : XK) (Z : Fr), Room k (A.deeper (envOfC qual (defScope st) s.heap.objs.size f cdv)) →
      PSs (cxOf CX0 Pg w K mg base Nm qual (defScope st) f cdv A outer s H E).nox (defBody st) (sM K Z body)) :
    FnOk Pg w K mg base CX0 (k + 1) f fd ps (spM K (mkFn Nm.length ps.length body) ps.length) := by
  refine Fn.ok Sc (fun vs H Q E h => ?_) (fun cdv A outer s H vs Q E hr h => ?_)
  · obtain ⟨N, F, P, ds, hl, _⟩ := h
    exact hl
  · obtain ⟨Z, q⟩ := mkFn_ok h
    exact ⟨_, hb cdv A outer s H E Z hr, q⟩
end
end Mi
set_option Elab.async false
set_option linter.all false
set_option maxRecDepth 100000
set_option maxHeartbeats 1000000
namespace Mi
open PySem PySem.Spec PyProof.Rows L2

section
variable {K : PySem.W.Frag} {Z : Fr} {N N' N'' : Nat} {F P F' P' F'' P'' : Addr → Prop} {env env' env'' e0 : Ev} {σ : L2.St} {H H' H'' H0 : Hp} {F0 P0 : Addr → Prop}

theorem Mon.refl : Mon K F P H F P H := ⟨fun _ h => h, fun _ h => h, fun _ _ h => h, fun _ _ _ h => h, fun _ _ _ h => h⟩
theorem Mon.trans (a : Mon K F P H F' P' H') (b : Mon K F' P' H' F'' P'' H'') : Mon K F P H F'' P'' H'' :=
  ⟨fun x h => b.fF x (a.fF x h), fun x h => b.pP x (a.pP x h), fun x xs h => b.tup x xs (a.tup x xs h), fun x xs f h => b.lst x xs (a.fF x f) (a.lst x xs f h), fun x o u h => b.frz x o u (a.frz x o u h)⟩

/-! ### tests -/
def mTest (m : M) : MT := fun env => (m env).bind fun r => match r.1 with
  | .val (.bl b) => .ret (b, r.2)
  | _ => .fail
theorem mTest_ok {m : M} {Q : Bool → Hp → Prop} (h : tT K Z (mTest m) σ H Q) : tM K Z m σ H fun x H' => ∃ k, x = .bl k ∧ Q k H' := by
  obtain ⟨N, F, P, env, S, h⟩ := h
  refine ⟨N, F, P, env, S, T.ok_mono (fun N1 r1 q1 => ?_) (T.ok_bind h)⟩
  intro v H1 F1 P1 E1 S1 R1 Y1
  split at q1
  · rename_i b e
    rw [e] at R1
    have R1' : RV K F1 P1 H1 (.bl b) v := R1
    simp only [RV] at R1'
    exact ⟨b, R1', q1 H1 F1 P1 E1 S1⟩
  · exact q1.elim
def truD : D → Option Bool
  | .non => some false
  | .bl b => some b
  | .int i => some (i != 0)
  | .tup l => some !l.isEmpty
  | .lst l => some !l.isEmpty
  | _ => none
def mTru (m : M) : MT := fun env => (m env).bind fun r => match rs r.2 r.1 with
  | some d => match truD d with
    | some b => .ret (b, r.2)
    | none => .fail
  | none => .fail
theorem RVs.isEmpty {ds : List D} {vs : List V} (h : RVs K F P H ds vs) : vs.isEmpty = ds.isEmpty := by
  have e := h.length
  cases ds <;> cases vs <;> simp_all
theorem truD_ok {d : D} {v : V} {b : Bool} (h : RC K F P H d v) (e : truD d = some b) : TruV K v H b := by
  cases d with
  | non =>
    cases e
    rcases h with h | ⟨a, _, o⟩
    · simp only [RV] at h; subst h; rfl
    · exact o.elim
  | bl c =>
    cases e
    rcases h with h | ⟨a, _, o⟩
    · simp only [RV] at h; subst h; rfl
    · exact o.elim
  | int i =>
    cases e
    rcases h with h | ⟨a, _, o⟩
    · simp only [RV] at h; subst h; rfl
    · exact o.elim
  | tup l =>
    cases e
    rcases h with h | ⟨a, _, o⟩
    · simp only [RV] at h
      obtain ⟨a, vs, rfl, q, r⟩ := h
      exact .inr (.inl ⟨vs, .of q, by rw [r.isEmpty]⟩)
    · exact o.elim
  | lst l =>
    cases e
    rcases h with h | ⟨a, rfl, o⟩
    · simp only [RV] at h
      obtain ⟨a, vs, rfl, f, q, r⟩ := h
      exact .inl ⟨vs, .of q, by rw [r.isEmpty]⟩
    · obtain ⟨vs, q, r⟩ := o
      exact .inl ⟨vs, .of q, by rw [r.isEmpty]⟩
  | _ => cases e
theorem mTru_ok {m : M} {Q : Bool → Hp → Prop} (h : tT K Z (mTru m) σ H Q) : tM K Z m σ H fun x H' => ∃ k, TruV K x H' k ∧ Q k H' := by
  obtain ⟨N, F, P, env, S, h⟩ := h
  refine ⟨N, F, P, env, S, T.ok_mono (fun N1 r1 q1 => ?_) (T.ok_bind h)⟩
  intro v H1 F1 P1 E1 S1 R1 Y1
  split at q1
  · rename_i d e
    split at q1
    · rename_i b e'
      exact ⟨b, truD_ok (R1.rc S1 e) e', q1 H1 F1 P1 E1 S1⟩
    · exact q1.elim
  · exact q1.elim
def mAnd (a b : MT) : MT := fun env => (a env).bind fun r => match r.1 with
  | true => b r.2
  | false => .ret (false, r.2)
def mOr (a b : MT) : MT := fun env => (a env).bind fun r => match r.1 with
  | true => .ret (true, r.2)
  | false => b r.2
def mNot (a : MT) : MT := fun env => (a env).bind fun r => .ret (!r.1, r.2)
theorem mAnd_ok {a b : MT} {Q : Bool → Hp → Prop} (h : tT K Z (mAnd a b) σ H Q) : tAnd (tT K Z a) (tT K Z b) σ H Q := by
  obtain ⟨N, F, P, env, S, h⟩ := h
  refine ⟨N, F, P, env, S, T.ok_mono (fun N1 r1 q1 => ?_) (T.ok_bind h)⟩
  intro H1 F1 P1 E1 S1
  obtain ⟨c, env1⟩ := r1
  cases c with
  | true => exact iteT ⟨N1, F1, P1, env1, S1, T.ok_mono (fun N2 r2 q2 H2 F2 P2 E2 S2 => q2 H2 F2 P2 (E1.trans E2) S2) q1⟩
  | false => exact iteF (q1 H1 F1 P1 E1 S1)
theorem mOr_ok {a b : MT} {Q : Bool → Hp → Prop} (h : tT K Z (mOr a b) σ H Q) : tOr (tT K Z a) (tT K Z b) σ H Q := by
  obtain ⟨N, F, P, env, S, h⟩ := h
  refine ⟨N, F, P, env, S, T.ok_mono (fun N1 r1 q1 => ?_) (T.ok_bind h)⟩
  intro H1 F1 P1 E1 S1
  obtain ⟨c, env1⟩ := r1
  cases c with
  | true => exact iteT (q1 H1 F1 P1 E1 S1)
  | false => exact iteF ⟨N1, F1, P1, env1, S1, T.ok_mono (fun N2 r2 q2 H2 F2 P2 E2 S2 => q2 H2 F2 P2 (E1.trans E2) S2) q1⟩
theorem mNot_ok {a : MT} {Q : Bool → Hp → Prop} (h : tT K Z (mNot a) σ H Q) : tNot (tT K Z a) σ H Q := by
  obtain ⟨N, F, P, env, S, h⟩ := h
  exact ⟨N, F, P, env, S, T.ok_mono (fun N1 r1 q1 => q1) (T.ok_bind h)⟩
/-- and, or, not as values -/
def eAnd (a b : M) : M := fun env => (a env).bind fun r => match r.1 with
  | .val (.bl true) => b r.2
  | .val (.bl false) => .ret (.val (.bl false), r.2)
  | _ => .fail
def eOr (a b : M) : M := fun env => (a env).bind fun r => match r.1 with
  | .val (.bl true) => .ret (.val (.bl true), r.2)
  | .val (.bl false) => b r.2
  | _ => .fail
def eNot (a : MT) : M := fun env => (a env).bind fun r => .ret (.val (.bl (!r.1)), r.2)
theorem Post.trans {Q : VK} {r : Hd × Ev} (E : Ext σ e0 F0 P0 H0 env F P H) : Post K Z σ e0 F0 P0 H0 Q N' r → Post K Z σ env F P H Q N' r := fun h => h.from E
theorem eAnd_ok {a b : M} {Q : VK} (h : tM K Z (eAnd a b) σ H Q) : tAndV (tM K Z a) (tM K Z b) σ H Q := by
  obtain ⟨N, F, P, env, S, h⟩ := h
  refine ⟨N, F, P, env, S, T.ok_mono (fun N1 r1 q1 => ?_) (T.ok_bind h)⟩
  intro v H1 F1 P1 E1 S1 R1 Y1
  obtain ⟨c, env1⟩ := r1
  dsimp only at q1
  split at q1
  · have R1' : RV K F1 P1 H1 (.bl true) v := R1
    simp only [RV] at R1'
    exact ⟨true, R1', iteT ⟨N1, F1, P1, env1, S1, T.ok_mono (fun N2 r2 q2 => Post.from (r := r2) E1 q2) q1⟩⟩
  · have R1' : RV K F1 P1 H1 (.bl false) v := R1
    simp only [RV] at R1'
    exact ⟨false, R1', iteF (q1 (.bl false) H1 F1 P1 E1 S1 (by show RV K F1 P1 H1 (.bl false) _; simp only [RV]) trivial)⟩
  · exact q1.elim
theorem eOr_ok {a b : M} {Q : VK} (h : tM K Z (eOr a b) σ H Q) : tOrV (tM K Z a) (tM K Z b) σ H Q := by
  obtain ⟨N, F, P, env, S, h⟩ := h
  refine ⟨N, F, P, env, S, T.ok_mono (fun N1 r1 q1 => ?_) (T.ok_bind h)⟩
  intro v H1 F1 P1 E1 S1 R1 Y1
  obtain ⟨c, env1⟩ := r1
  dsimp only at q1
  split at q1
  · have R1' : RV K F1 P1 H1 (.bl true) v := R1
    simp only [RV] at R1'
    exact ⟨true, R1', iteT (q1 (.bl true) H1 F1 P1 E1 S1 (by show RV K F1 P1 H1 (.bl true) _; simp only [RV]) trivial)⟩
  · have R1' : RV K F1 P1 H1 (.bl false) v := R1
    simp only [RV] at R1'
    exact ⟨false, R1', iteF ⟨N1, F1, P1, env1, S1, T.ok_mono (fun N2 r2 q2 => Post.from (r := r2) E1 q2) q1⟩⟩
  · exact q1.elim
def eIf (c : MT) (a b : M) : M := fun env => (c env).bind fun r => match r.1 with
  | true => a r.2
  | false => b r.2
theorem eIf_ok {c : MT} {a b : M} {Q : VK} (h : tM K Z (eIf c a b) σ H Q) : tIf (tT K Z c) (tM K Z a) (tM K Z b) σ H Q := by
  obtain ⟨N, F, P, env, S, h⟩ := h
  refine ⟨N, F, P, env, S, T.ok_mono (fun N1 r1 q1 => ?_) (T.ok_bind h)⟩
  intro H1 F1 P1 E1 S1
  obtain ⟨c, env1⟩ := r1
  cases c with
  | true => exact iteT ⟨N1, F1, P1, env1, S1, T.ok_mono (fun N2 r2 q2 => Post.from (r := r2) E1 q2) q1⟩
  | false => exact iteF ⟨N1, F1, P1, env1, S1, T.ok_mono (fun N2 r2 q2 => Post.from (r := r2) E1 q2) q1⟩

/-! ### statements -/
def PostS (K : PySem.W.Frag) (Z : Fr) (D : Ends) (F0 P0 : Addr → Prop) (H0 : Hp) (N' : Nat) (r : Fl × Ev) : Prop :=
  ∀ σ' H' F' P', Mon K F0 P0 H0 F' P' H' → StR K Z N' F' P' r.2 σ' H' → EndsM K D N' F' P' σ' H' r.1
theorem PostS.from {D : Ends} {r : Fl × Ev} (m : Mon K F0 P0 H0 F P H) (h : PostS K Z D F0 P0 H0 N' r) : PostS K Z D F P H N' r :=
  fun σ' H' F' P' m' S' => h σ' H' F' P' (m.trans m') S'
def sNext : MS := fun env => .ret (.nx, env)
def sBreak : MS := fun env => .ret (.bk, env)
def sCont : MS := fun env => .ret (.ct, env)
theorem sNext_ok {D : Ends} (h : sM K Z sNext D σ H) : tNext D σ H := by
  obtain ⟨N, F, P, env, S, h⟩ := h
  exact h σ H F P Mon.refl S
theorem sBreak_ok {D : Ends} (h : sM K Z sBreak D σ H) : tBreak D σ H := by
  obtain ⟨N, F, P, env, S, h⟩ := h
  exact h σ H F P Mon.refl S
theorem sCont_ok {D : Ends} (h : sM K Z sCont D σ H) : tCont D σ H := by
  obtain ⟨N, F, P, env, S, h⟩ := h
  exact h σ H F P Mon.refl S
def sSeq (a b : MS) : MS := fun env => (a env).bind fun r => match r.1 with
  | .nx => b r.2
  | f => .ret (f, r.2)
theorem sSeq_ok {a b : MS} {D : Ends} (h : sM K Z (sSeq a b) D σ H) : tSeq (sM K Z a) (sM K Z b) D σ H := by
  obtain ⟨N, F, P, env, S, h⟩ := h
  refine ⟨N, F, P, env, S, T.ok_mono (fun N1 r1 q1 => ?_) (T.ok_bind h)⟩
  intro σ' H' F' P' m S'
  obtain ⟨f, env1⟩ := r1
  cases f with
  | nx => exact ⟨N1, F', P', env1, S', T.ok_mono (fun N2 r2 q2 => PostS.from (r := r2) m q2) q1⟩
  | bk => exact q1 σ' H' F' P' m S'
  | ct => exact q1 σ' H' F' P' m S'
  | rt d => exact q1 σ' H' F' P' m S'
def sIf (c : MT) (a b : MS) : MS := fun env => (c env).bind fun r => match r.1 with
  | true => a r.2
  | false => b r.2
theorem sIf_ok {c : MT} {a b : MS} {D : Ends} (h : sM K Z (sIf c a b) D σ H) : tIfS (tT K Z c) (sM K Z a) (sM K Z b) D σ H := by
  obtain ⟨N, F, P, env, S, h⟩ := h
  refine ⟨N, F, P, env, S, T.ok_mono (fun N1 r1 q1 => ?_) (T.ok_bind h)⟩
  intro H1 F1 P1 E1 S1
  obtain ⟨c, env1⟩ := r1
  cases c with
  | true => exact iteT ⟨N1, F1, P1, env1, S1, T.ok_mono (fun N2 r2 q2 => PostS.from (r := r2) (E1.mon S) q2) q1⟩
  | false => exact iteF ⟨N1, F1, P1, env1, S1, T.ok_mono (fun N2 r2 q2 => PostS.from (r := r2) (E1.mon S) q2) q1⟩
def sRet (m : M) : MS := fun env => (m env).bind fun r => match fz r.2 r.1 with
  | some (d, env') => .ret (.rt d, env')
  | none => .fail
theorem sRet_ok {m : M} {D : Ends} (h : sM K Z (sRet m) D σ H) : tRet (tM K Z m) D σ H := by
  obtain ⟨N, F, P, env, S, h⟩ := h
  refine ⟨N, F, P, env, S, T.ok_mono (fun N1 r1 q1 => ?_) (T.ok_bind h)⟩
  intro v H1 F1 P1 E1 S1 R1 Y1
  split at q1
  · rename_i d env1 e
    obtain ⟨F2, E2, S2, rv⟩ := R1.freeze E1 S1 Y1 e
    exact q1 σ H1 F2 P1 (E2.mon S) S2 v rv
  · exact q1.elim
def sRetN : MS := fun env => .ret (.rt .non, env)
theorem sRetN_ok {D : Ends} (h : sM K Z sRetN D σ H) : tRetN D σ H := by
  obtain ⟨N, F, P, env, S, h⟩ := h
  exact h σ H F P Mon.refl S .non (by simp only [RV])
def sNever : MS := fun _ => .fail
theorem sNever_ok {D : Ends} (h : sM K Z sNever D σ H) : tNever D σ H := by
  obtain ⟨N, F, P, env, S, h⟩ := h
  exact h.elim
/-- an expression whose value is dropped -/
def sDrop (m : M) : MS := fun env => (m env).bind fun r => .ret (.nx, r.2)
theorem sDrop_ok {m : M} {D : Ends} (h : sM K Z (sDrop m) D σ H) : tDrop (tM K Z m) D σ H := by
  obtain ⟨N, F, P, env, S, h⟩ := h
  refine ⟨N, F, P, env, S, T.ok_mono (fun N1 r1 q1 => ?_) (T.ok_bind h)⟩
  intro v H1 F1 P1 E1 S1 R1 Y1
  exact q1 σ H1 F1 P1 (E1.mon S) S1

/-! ### a name is stored -/
/-- a name's slot takes a handle -/
def put (i : Nat) (r : Hd × Ev) : Option Ev := if i < r.2.length then match r.1 with
  | .val d => some (r.2.set i (some (false, d)))
  | .tmp d => some (r.2.set i (some (true, d)))
  | .slot j => match fz r.2 (.slot j) with
    | some (d, env') => some (env'.set i (some (false, d)))
    | none => none
  else none
theorem StR.set {i : Nat} {d : D} {v : V} (S : StR K Z N F P env σ H) (hi : i < env.length) (r : RV K F P H d v) : StR K Z N F P (env.set i (some (false, d))) (σ.set i (some v)) H := by
  have hσ : i < σ.length := by rw [← S.len]; exact hi
  have sub : ∀ j x, (env.set i (some (false, d)))[j]? = some (some (true, x)) → env[j]? = some (some (true, x)) ∧ i ≠ j := fun j x q => by
    by_cases hj : i = j
    · subst hj; rw [List.getElem?_set_self hi] at q; cases q
    · rw [List.getElem?_set_ne hj] at q; exact ⟨q, hj⟩
  refine { len := by simpa using S.len, fz := fun j x q => ?_, ow := fun j x q => ?_, inj := fun j k x y q q' z => ?_, same := S.same, frF := S.frF, frP := S.frP, subF := S.subF, subP := S.subP, trF := S.trF, pot := S.pot, dis := S.dis, nle := S.nle }
  · by_cases hj : i = j
    · subst hj
      rw [List.getElem?_set_self hi] at q; cases q
      exact ⟨v, List.getElem?_set_self hσ, r⟩
    · rw [List.getElem?_set_ne hj] at q ⊢
      exact S.fz j x q
  · obtain ⟨q, hj⟩ := sub j x q
    rw [List.getElem?_set_ne hj]
    exact S.ow j x q
  · obtain ⟨q, hj⟩ := sub j x q
    obtain ⟨q', hk⟩ := sub k y q'
    rw [List.getElem?_set_ne hj, List.getElem?_set_ne hk] at z
    exact S.inj j k x y q q' z
theorem StR.setO {i : Nat} {d : D} {a : Addr} (S : StR K Z N F P env σ H) (hi : i < env.length) (o : Own K F P H a d) (nf : ¬ F a) (np : ¬ P a) (no : ¬ Owned env σ a) (h0 : Z.H0 a = none) :
    StR K Z N F P (env.set i (some (true, d))) (σ.set i (some (.ref a))) H := by
  have hσ : i < σ.length := by rw [← S.len]; exact hi
  refine { len := by simpa using S.len, fz := fun j x q => ?_, ow := fun j x q => ?_, inj := fun j k x y q q' z => ?_, same := S.same, frF := S.frF, frP := S.frP, subF := S.subF, subP := S.subP, trF := S.trF, pot := S.pot, dis := S.dis, nle := S.nle }
  · by_cases hj : i = j
    · subst hj; rw [List.getElem?_set_self hi] at q; cases q
    · rw [List.getElem?_set_ne hj] at q ⊢
      exact S.fz j x q
  · by_cases hj : i = j
    · subst hj
      rw [List.getElem?_set_self hi] at q; cases q
      exact ⟨a, List.getElem?_set_self hσ, o, nf, np, h0⟩
    · rw [List.getElem?_set_ne hj] at q ⊢
      exact S.ow j x q
  · by_cases hj : i = j
    · by_cases hk : i = k
      · exact hj.symm.trans hk
      · subst hj
        rw [List.getElem?_set_ne hk] at q' z
        rw [List.getElem?_set_self hσ] at z
        exact (no ⟨k, y, q', z.symm⟩).elim
    · by_cases hk : i = k
      · subst hk
        rw [List.getElem?_set_ne hj] at q z
        rw [List.getElem?_set_self hσ] at z
        exact (no ⟨j, x, q, z⟩).elim
      · rw [List.getElem?_set_ne hj] at q z
        rw [List.getElem?_set_ne hk] at q' z
        exact S.inj j k x y q q' z
theorem RH.put {i : Nat} {h : Hd} {v : V} (E : Ext σ e0 F0 P0 H0 env F P H) (S : StR K Z N F P env σ H) (Y : Young H0 h v) (R : RH K Z F P env σ H h v) (e : put i (h, env) = some env') :
    ∃ F', (∀ a, F a → F' a) ∧ Mon K F P H F' P H ∧ StR K Z N F' P env' (σ.set i (some v)) H := by
  unfold Mi.put at e
  split at e
  · rename_i hi
    dsimp only at e hi
    cases h with
    | val d =>
      cases e
      exact ⟨F, fun _ h => h, Mon.refl, S.set hi R⟩
    | tmp d =>
      cases e
      obtain ⟨a, rfl, o, nf, np, no, h0⟩ := R
      exact ⟨F, fun _ h => h, Mon.refl, S.setO hi o nf np no h0⟩
    | slot j =>
      dsimp only at e
      split at e
      · rename_i d env1 q
        cases e
        obtain ⟨F', E', S', rv, m, _⟩ := RHw.freeze (e0 := e0) E S Y R.w q
        have hl : env1.length = env.length := by rw [S'.len, S.len]
        exact ⟨F', m.fF, m, S'.set (by rw [hl]; exact hi) rv⟩
      · cases e
  · cases e
def sSet (i : Nat) (m : M) : MS := fun env => (m env).bind fun r => match put i r with
  | some env' => .ret (.nx, env')
  | none => .fail
theorem sSet_ok {i : Nat} {m : M} {D : Ends} (h : sM K Z (sSet i m) D σ H) : tAsg (tM K Z m) (gName i) D σ H := by
  obtain ⟨N, F, P, env, S, h⟩ := h
  refine ⟨N, F, P, env, S, T.ok_mono (fun N1 r1 q1 => ?_) (T.ok_bind h)⟩
  intro v H1 F1 P1 E1 S1 R1 Y1
  split at q1
  · rename_i env2 e
    obtain ⟨F2, _, m2, S2⟩ := RH.put E1 S1 Y1 R1 e
    exact q1 _ H1 F2 P1 ((E1.mon S).trans m2) S2
  · exact q1.elim
end
end Mi
set_option Elab.async false
set_option linter.all false
set_option maxRecDepth 100000
set_option maxHeartbeats 1000000
namespace Mi
open PySem PySem.Spec PyProof.Rows L2

section
variable {K : PySem.W.Frag} {Z : Fr} {N N' N'' : Nat} {F P F' P' F'' P'' : Addr → Prop} {env env' env'' e0 : Ev} {σ : L2.St} {H H' H'' H0 : Hp} {F0 P0 : Addr → Prop}

/-! ### targets -/
abbrev GM := D → Ev → Option Ev
/-- what a target's store leaves: sl, the slots that it may change -/
structure GoK (sl : List Nat) (env : Ev) (σ : L2.St) (env' : Ev) (σ' : L2.St) : Prop where
  at_ : ∀ j, j ∉ sl → σ'[j]? = σ[j]?
  len : σ'.length = σ.length
  own : ∀ b, Owned env' σ' b → Owned env σ b
  slot : ∀ (i : Nat) fl x, env[i]? = some (some (fl, x)) → ∃ fl x, env'[i]? = some (some (fl, x))
theorem owned_set {i : Nat} {x : Slot} {y : Option V} {b : Addr} (o : Owned (env.set i x) (σ.set i y) b) : Owned env σ b ∨ (y = some (.ref b) ∧ ∃ d, x = some (true, d)) := by
  obtain ⟨j, d, e1, e2⟩ := o
  by_cases hj : i = j
  · subst hj
    have h1 : i < env.length := by
      have := (List.getElem?_eq_some_iff.mp e1).1
      simpa using this
    have h2 : i < σ.length := by
      have := (List.getElem?_eq_some_iff.mp e2).1
      simpa using this
    rw [List.getElem?_set_self h1] at e1
    rw [List.getElem?_set_self h2] at e2
    cases e1; cases e2
    exact .inr ⟨rfl, d, rfl⟩
  · rw [List.getElem?_set_ne hj] at e1 e2
    exact .inl ⟨j, d, e1, e2⟩
def GOk (K : PySem.W.Frag) (t : TG) (g : GM) (sl : List Nat) : Prop := ∀ {Z : Fr} {N : Nat} {F P : Addr → Prop} {env env' : Ev} {σ : L2.St} {H : Hp} {d : D} {v : V} {Q : L2.St → Hp → Prop},
  StR K Z N F P env σ H → RV K F P H d v → g d env = some env' → (∀ σ', GoK sl env σ env' σ' → StR K Z N F P env' σ' H → Q σ' H) → t v σ H Q
def GsOk (K : PySem.W.Frag) (t : TGs) (g : List D → Ev → Option Ev) (sl : List Nat) : Prop := ∀ {Z : Fr} {N : Nat} {F P : Addr → Prop} {env env' : Ev} {σ : L2.St} {H : Hp} {d : List D} {v : List V} {Q : L2.St → Hp → Prop},
  StR K Z N F P env σ H → RVs K F P H d v → g d env = some env' → (∀ σ', GoK sl env σ env' σ' → StR K Z N F P env' σ' H → Q σ' H) → t v σ H Q
def gNm (i : Nat) : GM := fun d env => if i < env.length then some (env.set i (some (false, d))) else none
theorem gNm_ok {i : Nat} : GOk K (gName i) (gNm i) [i] := by
  intro Z N F P env env' σ H d v Q S r e q
  unfold gNm at e
  split at e
  · rename_i hi
    cases e
    refine q _ ⟨fun j hj => ?_, by simp, fun b o => ?_, fun j fl x e => ?_⟩ (S.set hi r)
    · rw [List.getElem?_set_ne (fun z => hj (by simp [z]))]
    · rcases owned_set o with o | ⟨_, d, z⟩
      · exact o
      · cases z
    · by_cases hj : i = j
      · subst hj; exact ⟨_, _, List.getElem?_set_self hi⟩
      · rw [List.getElem?_set_ne hj]; exact ⟨fl, x, e⟩
  · cases e
def gsNil : List D → Ev → Option Ev := fun ds env => match ds with
  | [] => some env
  | _ => none
def gsCons (g : GM) (gs : List D → Ev → Option Ev) : List D → Ev → Option Ev := fun ds env => match ds with
  | d :: ds => (g d env).bind (gs ds)
  | [] => none
theorem gsNil_ok : GsOk K gNil gsNil [] := by
  intro Z N F P env env' σ H d v Q S r e q
  unfold gsNil at e
  split at e
  · cases e
    rw [r.unnil]
    exact ⟨rfl, q σ ⟨fun _ _ => rfl, rfl, fun _ h => h, fun i fl x e => ⟨fl, x, e⟩⟩ S⟩
  · cases e
theorem gsCons_ok {t : TG} {g : GM} {ts : TGs} {gs : List D → Ev → Option Ev} {sl sls : List Nat} (h : GOk K t g sl) (hs : GsOk K ts gs sls) : GsOk K (gCons t ts) (gsCons g gs) (sl ++ sls) := by
  intro Z N F P env env' σ H d v Q S r e q
  unfold gsCons at e
  split at e
  · rename_i d ds
    obtain ⟨x, xr, rfl, r1, rr⟩ := r.uncons
    cases e1 : g d env with
    | none => rw [e1] at e; cases e
    | some env1 =>
      rw [e1] at e
      have e : gs ds env1 = some env' := e
      refine ⟨x, xr, rfl, h S r1 e1 fun σ1 k1 S1 => hs S1 rr e fun σ2 k2 S2 => q σ2 ⟨fun j hj => ?_, k2.len.trans k1.len, fun b o => k1.own b (k2.own b o), fun i fl x e => ?_⟩ S2⟩
      · simp only [List.mem_append, not_or] at hj
        rw [k2.at_ j hj.2, k1.at_ j hj.1]
      · obtain ⟨fl1, x1, e1⟩ := k1.slot i fl x e
        exact k2.slot i fl1 x1 e1
  · cases e
def gTp (n : Nat) (gs : List D → Ev → Option Ev) : GM := fun d env => match d with
  | .tup ds => if ds.length = n then gs ds env else none
  | .lst ds => if ds.length = n then gs ds env else none
  | _ => none
/-- a tuple or a list is taken apart -/
def gSeq (K : PySem.W.Frag) (n : Nat) (t : TGs) : TG := fun v σ H Q => gTup K n t v σ H Q ∨ gLst K n t v σ H Q
theorem gTp_ok {n : Nat} {ts : TGs} {gs : List D → Ev → Option Ev} {sl : List Nat} (h : GsOk K ts gs sl) : GOk K (gSeq K n ts) (gTp n gs) sl := by
  intro Z N F P env env' σ H d v Q S r e q
  unfold gTp at e
  split at e
  · rename_i ds
    split at e
    · rename_i hl
      simp only [RV] at r
      obtain ⟨a, vs, rfl, sq, rs⟩ := r
      exact .inl ⟨a, vs, rfl, .of sq, by rw [rs.length, hl], h S rs e q⟩
    · cases e
  · rename_i ds
    split at e
    · rename_i hl
      simp only [RV] at r
      obtain ⟨a, vs, rfl, f, sq, rs⟩ := r
      exact .inr ⟨a, vs, rfl, .of sq, by rw [rs.length, hl], h S rs e q⟩
    · cases e
  · cases e
theorem pg_seq {X : Cx} {es : List Expr} {k : Nat} {pos : Pos} {t : TGs} {n : Nat} (hc : X.calm = true) (h : PGs X es t)
    (hn : (assignEach es X.env).length = n) (hst : (assignEach es X.env).findIdx? (·.1) = none) : PG X (.Tuple es k pos) (gSeq X.K n t) :=
  ⟨fun pins s σ H v u Q I r hw => hw.elim ((pg_tup (pos := pos) (k := k) hc h hn hst).run pins s σ H v u Q I r) ((pg_lst (pos := pos) (k := k) hc h hn hst).run pins s σ H v u Q I r)⟩

/-- target = value -/
def sAsg (m : M) (g : GM) : MS := fun env => (m env).bind fun r => match fz r.2 r.1 with
  | some (d, env1) => match g d env1 with
    | some env2 => .ret (.nx, env2)
    | none => .fail
  | none => .fail
theorem sAsg_ok {m : M} {t : TG} {g : GM} {sl : List Nat} {D : Ends} (hg : GOk K t g sl) (h : sM K Z (sAsg m g) D σ H) : tAsg (tM K Z m) t D σ H := by
  obtain ⟨N, F, P, env, S, h⟩ := h
  refine ⟨N, F, P, env, S, T.ok_mono (fun N1 r1 q1 => ?_) (T.ok_bind h)⟩
  intro v H1 F1 P1 E1 S1 R1 Y1
  split at q1
  · rename_i d env1 e
    obtain ⟨F2, E2, S2, rv⟩ := R1.freeze E1 S1 Y1 e
    split at q1
    · rename_i env2 e2
      exact hg S2 rv e2 fun σ' _ S3 => q1 σ' H1 F2 P1 (E2.mon S) S3
    · exact q1.elim
  · exact q1.elim

/-! ### a, b = x, y -/
def noSlot : Hd → Bool
  | .slot _ => false
  | _ => true
def unslot (e : Ev) : List Hd → Option (List Hd × Ev)
  | [] => some ([], e)
  | .slot i :: hs => match fz e (.slot i) with
    | some (d, e') => match unslot e' hs with
      | some (hs', e'') => some (.val d :: hs', e'')
      | none => none
    | none => none
  | h :: hs => match unslot e hs with
    | some (hs', e'') => some (h :: hs', e'')
    | none => none
def puts : List Nat → List Hd → Ev → Option Ev
  | [], [], env => some env
  | i :: is, .val d :: hs, env => if i < env.length then puts is hs (env.set i (some (false, d))) else none
  | i :: is, .tmp d :: hs, env => if i < env.length then puts is hs (env.set i (some (true, d))) else none
  | _, _, _ => none
def setAll : L2.St → List Nat → List V → L2.St
  | σ, i :: is, v :: vs => setAll (σ.set i (some v)) is vs
  | σ, _, _ => σ
theorem RH.reF (m : Mon K F P H F' P H) (hF : ∀ a, F' a → F a ∨ Owned env σ a) (ow : ∀ b, Owned env' σ b → Owned env σ b) (sl : ∀ (i : Nat) fl x, env[i]? = some (some (fl, x)) → ∃ fl x, env'[i]? = some (some (fl, x))) :
    ∀ {h : Hd} {v : V}, RH K Z F P env σ H h v → RH K Z F' P env' σ H h v
  | .val d, v, h => RV.mono m d v h
  | .tmp d, v, ⟨a, e, o, nf, np, no, h0⟩ => ⟨a, e, o.mono m fun _ h => h, fun z => (hF a z).elim nf no, np, fun z => no (ow a z), h0⟩
  | .slot i, v, ⟨e1, fl, d, e2⟩ => ⟨e1, sl i fl d e2⟩
theorem RHs.reF (m : Mon K F P H F' P H) (hF : ∀ a, F' a → F a ∨ Owned env σ a) (ow : ∀ b, Owned env' σ b → Owned env σ b) (sl : ∀ (i : Nat) fl x, env[i]? = some (some (fl, x)) → ∃ fl x, env'[i]? = some (some (fl, x))) :
    ∀ {h : List Hd} {v : List V}, RHs K Z F P env σ H h v → RHs K Z F' P env' σ H h v
  | [], v, h => h
  | h :: hs, v, ⟨x, xr, e, r, rr⟩ => ⟨x, xr, e, r.reF m hF ow sl, RHs.reF m hF ow sl rr⟩
/-- a slot is frozen -/
theorem StR.fzSlot {i : Nat} {d : D} {v : V} (S : StR K Z N F P env σ H) (R : RH K Z F P env σ H (.slot i) v) (e : Mi.fz env (.slot i) = some (d, env')) :
    ∃ F', StR K Z N F' P env' σ H ∧ RV K F' P H d v ∧ Mon K F P H F' P H ∧ (∀ a, F' a → F a ∨ Owned env σ a) ∧ (∀ b, Owned env' σ b → Owned env σ b) ∧
      ∀ (i : Nat) fl x, env[i]? = some (some (fl, x)) → ∃ fl x, env'[i]? = some (some (fl, x)) := by
  obtain ⟨F', E', S', rv, m, ow, sl⟩ := RHw.freeze (e0 := env) (F0 := F) (P0 := P) (H0 := H) Ext.refl S (show Young H (.slot i) v from trivial) R.w e
  refine ⟨F', S', rv, m, fun a h => ?_, ow, sl⟩
  rcases E'.newF a h with q | q | q
  · exact .inl q
  · obtain ⟨o, z⟩ := S'.trF a h
    rw [q] at z; cases z
  · exact .inr q
theorem unslot_ok : ∀ {hs : List Hd} {vs : List V} {hs' : List Hd} {env env' : Ev} {F : Addr → Prop}, StR K Z N F P env σ H → RHs K Z F P env σ H hs vs → Apart hs vs → unslot env hs = some (hs', env') →
    ∃ F', StR K Z N F' P env' σ H ∧ RHs K Z F' P env' σ H hs' vs ∧ Apart hs' vs ∧ Mon K F P H F' P H ∧ (∀ a, F' a → F a ∨ Owned env σ a) ∧ (∀ b, Owned env' σ b → Owned env σ b) ∧
      (∀ (i : Nat) fl x, env[i]? = some (some (fl, x)) → ∃ fl x, env'[i]? = some (some (fl, x))) ∧ (∀ (i : Nat) d, hs'[i]? = some (.tmp d) → hs[i]? = some (.tmp d))
  | [], vs, hs', env, env', F, S, R, A, e => by
    cases e
    exact ⟨F, S, R, A, Mon.refl, fun _ h => .inl h, fun _ h => h, fun i fl x e => ⟨fl, x, e⟩, fun _ _ h => h⟩
  | .slot i :: hs, vs, hs', env, env', F, S, R, A, e => by
    obtain ⟨v, vr, rfl, r, rr⟩ := R
    simp only [unslot] at e
    split at e
    · rename_i d env1 q
      split at e
      · rename_i hs1 env2 q2
        cases e
        obtain ⟨F1, S1, rv, m1, n1, ow1, sl1⟩ := S.fzSlot r q
        obtain ⟨F2, S2, R2, A2, m2, n2, ow2, sl2, t2⟩ := unslot_ok S1 (rr.reF m1 n1 ow1 sl1) A q2
        refine ⟨F2, S2, ⟨v, vr, rfl, rv.mono m2, R2⟩, A2, m1.trans m2, fun a h => ?_, fun b h => ow1 b (ow2 b h), fun i fl x e => ?_, fun j d e => ?_⟩
        · rcases n2 a h with z | z
          · exact n1 a z
          · exact .inr (ow1 a z)
        · obtain ⟨fl', x', e'⟩ := sl1 i fl x e
          exact sl2 i fl' x' e'
        · cases j with
          | zero => simp at e
          | succ j => simpa using t2 j d (by simpa using e)
      · cases e
    · cases e
  | .val d :: hs, vs, hs', env, env', F, S, R, A, e => by
    obtain ⟨v, vr, rfl, r, rr⟩ := R
    simp only [unslot] at e
    split at e
    · rename_i hs1 env2 q2
      cases e
      obtain ⟨F2, S2, R2, A2, m2, n2, ow2, sl2, t2⟩ := unslot_ok S rr A q2
      refine ⟨F2, S2, ⟨v, vr, rfl, RV.mono m2 d v r, R2⟩, A2, m2, n2, ow2, sl2, fun j d e => ?_⟩
      cases j with
      | zero => simp at e
      | succ j => simpa using t2 j d (by simpa using e)
    · cases e
  | .tmp d :: hs, vs, hs', env, env', F, S, R, A, e => by
    obtain ⟨v, vr, rfl, r, rr⟩ := R
    simp only [unslot] at e
    split at e
    · rename_i hs1 env2 q2
      cases e
      obtain ⟨F2, S2, R2, A2, m2, n2, ow2, sl2, t2⟩ := unslot_ok S rr A.2 q2
      refine ⟨F2, S2, ⟨v, vr, rfl, r.reF m2 n2 ow2 sl2, R2⟩, ⟨fun i ⟨d', e'⟩ => A.1 i ⟨d', t2 i d' e'⟩, A2⟩, m2, n2, ow2, sl2, fun j d e => ?_⟩
      cases j with
      | zero => simpa using e
      | succ j => simpa using t2 j d (by simpa using e)
    · cases e
theorem RHs.get : ∀ {hs : List Hd} {vs : List V} {i : Nat} {v : V}, RHs K Z F P env σ H hs vs → vs[i]? = some v → ∃ h, hs[i]? = some h ∧ RH K Z F P env σ H h v
  | [], vs, i, v, h, e => by
    have h' : vs = [] := h
    subst h'; simp at e
  | h :: hs, vs, 0, w, ⟨v, vr, ev, r, rr⟩, e => by
    subst ev
    simp at e; subst e
    exact ⟨h, rfl, r⟩
  | h :: hs, vs, i + 1, w, ⟨v, vr, ev, r, rr⟩, e => by
    subst ev
    obtain ⟨h', e', r'⟩ := RHs.get (i := i) rr (by simpa using e)
    exact ⟨h', by simpa using e', r'⟩
/-- values and temporaries do not hang on the slots -/
theorem RHs.set {i : Nat} {x : Slot} {y : Option V} : ∀ {hs : List Hd} {vs : List V}, hs.all noSlot = true → RHs K Z F P env σ H hs vs →
    (∀ (j : Nat) b d d', x = some (true, d) → y = some (.ref b) → hs[j]? = some (.tmp d') → vs[j]? ≠ some (.ref b)) → RHs K Z F P (env.set i x) (σ.set i y) H hs vs
  | [], vs, _, h, _ => h
  | h :: hs, vs, l, ⟨v, vr, e, r, rr⟩, ap => by
    subst e
    simp only [List.all_cons, Bool.and_eq_true] at l
    refine ⟨v, vr, rfl, ?_, RHs.set l.2 rr fun j b d d' h1 h2 h3 => by simpa using ap (j + 1) b d d' h1 h2 (by simpa using h3)⟩
    cases h with
    | val d => exact r
    | slot i => exact absurd l.1 (by simp [noSlot])
    | tmp d =>
      obtain ⟨a, e, o, nf, np, no, h0⟩ := r
      subst e
      refine ⟨a, rfl, o, nf, np, fun z => ?_, h0⟩
      rcases owned_set z with z | ⟨z1, d', z2⟩
      · exact no z
      · exact ap 0 a d' d z2 z1 rfl rfl
theorem puts_ok : ∀ {is : List Nat} {hs : List Hd} {vs : List V} {env env' : Ev} {σ : L2.St}, StR K Z N F P env σ H → hs.all noSlot = true → RHs K Z F P env σ H hs vs → Apart hs vs → puts is hs env = some env' → StR K Z N F P env' (setAll σ is vs) H
  | [], [], vs, env, env', σ, S, l, R, A, e => by
    cases e
    have R' : vs = [] := R
    subst R'
    exact S
  | [], _ :: _, vs, env, env', σ, S, l, R, A, e => by cases e
  | i :: is, [], vs, env, env', σ, S, l, R, A, e => by cases e
  | i :: is, .val d :: hs, vs, env, env', σ, S, l, R, A, e => by
    obtain ⟨v, vr, rfl, r, rr⟩ := R
    simp only [puts] at e
    split at e
    · rename_i hi
      simp only [List.all_cons, Bool.and_eq_true] at l
      show StR K Z N F P env' (setAll (σ.set i (some v)) is vr) H
      exact puts_ok (S.set hi r) l.2 (rr.set l.2 fun j b d d' h => by cases h) A e
    · cases e
  | i :: is, .tmp d :: hs, vs, env, env', σ, S, l, R, A, e => by
    obtain ⟨v, vr, rfl, r, rr⟩ := R
    simp only [puts] at e
    split at e
    · rename_i hi
      simp only [List.all_cons, Bool.and_eq_true] at l
      obtain ⟨a, rfl, o, nf, np, no, h0⟩ := r
      show StR K Z N F P env' (setAll (σ.set i (some (.ref a))) is vr) H
      refine puts_ok (S.setO hi o nf np no h0) l.2 (rr.set l.2 fun j b d d' h1 h2 h3 => ?_) A.2 e
      cases h2
      exact A.1 j ⟨d', h3⟩
    · cases e
  | i :: is, .slot j :: hs, vs, env, env', σ, S, l, R, A, e => by cases e
theorem unslot_noSlot : ∀ {hs hs' : List Hd} {env env' : Ev}, unslot env hs = some (hs', env') → hs'.all noSlot = true
  | [], hs', env, env', e => by cases e; rfl
  | .slot i :: hs, hs', env, env', e => by
    simp only [unslot] at e
    split at e
    · split at e
      · rename_i q
        cases e
        simp [noSlot, unslot_noSlot q]
      · cases e
    · cases e
  | .val d :: hs, hs', env, env', e => by
    simp only [unslot] at e
    split at e
    · rename_i q
      cases e
      simp [noSlot, unslot_noSlot q]
    · cases e
  | .tmp d :: hs, hs', env, env', e => by
    simp only [unslot] at e
    split at e
    · rename_i q
      cases e
      simp [noSlot, unslot_noSlot q]
    · cases e
def sPar (is : List Nat) (ms : MH) : MS := fun env => (ms env).bind fun r => match unslot r.2 r.1 with
  | some (hs, env1) => match puts is hs env1 with
    | some env2 => .ret (.nx, env2)
    | none => .fail
  | none => .fail
theorem sPar_ok {is : List Nat} {ms : MH} {n : Nat} {D : Ends} (hn : HLen n ms) (h : sM K Z (sPar is ms) D σ H) : tH K Z ms σ H fun vs H1 => vs.length = n ∧ D.nx (setAll σ is vs) H1 := by
  obtain ⟨N, F, P, env, S, h⟩ := h
  refine ⟨N, F, P, env, S, T.ok_mono (fun N1 r1 ⟨l1, q1⟩ => ?_) (hn _ _ _ (T.ok_bind h))⟩
  intro vs H1 F1 P1 E1 S1 R1 Y1 A1
  refine ⟨by rw [R1.length, l1], ?_⟩
  split at q1
  · rename_i hs env1 e1
    obtain ⟨F2, S2, R2, A2, m2, _⟩ := unslot_ok S1 R1 A1 e1
    split at q1
    · rename_i env2 e2
      exact q1 _ H1 F2 P1 ((E1.mon S).trans m2) (puts_ok S2 (unslot_noSlot e1) R2 A2 e2)
    · exact q1.elim
  · exact q1.elim
theorem sPar2_ok {i j : Nat} {ms : MH} {D : Ends} (hn : HLen 2 ms) (h : sM K Z (sPar [i, j] ms) D σ H) : tPar i j (tH K Z ms) D σ H := by
  obtain ⟨N, F, P, env, S, q⟩ := sPar_ok hn h
  refine ⟨N, F, P, env, S, T.ok_mono (fun N1 r1 q1 => ?_) q⟩
  intro vs H1 F1 P1 E1 S1 R1 Y1 A1
  obtain ⟨hl, q⟩ := q1 vs H1 F1 P1 E1 S1 R1 Y1 A1
  match vs, hl, q with
  | [v, w], _, q => exact ⟨v, w, rfl, q⟩
theorem sPar3_ok {i j l : Nat} {ms : MH} {D : Ends} (hn : HLen 3 ms) (h : sM K Z (sPar [i, j, l] ms) D σ H) : tPar3 i j l (tH K Z ms) D σ H := by
  obtain ⟨N, F, P, env, S, q⟩ := sPar_ok hn h
  refine ⟨N, F, P, env, S, T.ok_mono (fun N1 r1 q1 => ?_) q⟩
  intro vs H1 F1 P1 E1 S1 R1 Y1 A1
  obtain ⟨hl, q⟩ := q1 vs H1 F1 P1 E1 S1 R1 Y1 A1
  match vs, hl, q with
  | [u, v, w], _, q => exact ⟨u, v, w, rfl, q⟩
end
end Mi
set_option Elab.async false
set_option linter.all false
set_option maxRecDepth 100000
set_option maxHeartbeats 1000000
namespace Mi
open PySem PySem.Spec PyProof.Rows L2

section
variable {K : PySem.W.Frag} {Z : Fr} {N N' N'' : Nat} {F P F' P' F'' P'' : Addr → Prop} {env env' env'' e0 : Ev} {σ : L2.St} {H H' H'' H0 : Hp} {F0 P0 : Addr → Prop}

/-! ### what is walked -/
def YieldsD (K : PySem.W.Frag) (J : It) (ds : List D) (F P : Addr → Prop) (H : Hp) : Prop :=
  ∀ F' P' H', Mon K F P H F' P' H' → J.stop ds.length H' ∧ ∀ (i : Nat) d, ds[i]? = some d → J.go i H' ∧ ∀ x H'', J.yld i H' x H'' →
    (H'' = H' ∧ RV K F' P' H' d x) ∨ (∃ (Ta : Addr) (vs : List V) (es : List D), x = .ref Ta ∧ H' Ta = none ∧ H'' = upd H' Ta (.tup vs) ∧ d = .tup es ∧ RVs K F' P' H' es vs)
abbrev MI := Ev → T (List D × Ev)
def tI (K : PySem.W.Frag) (Z : Fr) (m : MI) : TI := fun σ H R => ∃ N F P env, StR K Z N F P env σ H ∧ (m env).ok N fun N' r =>
  ∀ J H' F' P', Ext σ env F P H r.2 F' P' H' → StR K Z N' F' P' r.2 σ H' → YieldsD K J r.1 F' P' H' → r.1.length ≤ sizeLine → R J H'
theorem PI.imp {X : Cx} {tg e : Expr} {t t' : TI} (p : PI X tg e t) (h : ∀ σ H Q, t' σ H Q → t σ H Q) : PI X tg e t' := ⟨fun pins s σ H Q I hw => p.run pins s σ H Q I (h σ H Q hw)⟩
/-- what a turn hands on is a value -/
theorem yield_rv {d : D} {x : V} (S : StR K Z N F P env σ H') (h : (H'' = H' ∧ RV K F P H' d x) ∨ (∃ (Ta : Addr) (vs : List V) (es : List D), x = .ref Ta ∧ H' Ta = none ∧ H'' = upd H' Ta (.tup vs) ∧ d = .tup es ∧ RVs K F P H' es vs)) :
    StR K Z N F P env σ H'' ∧ RV K F P H'' d x ∧ Ext σ env F P H' env F P H'' := by
  rcases h with ⟨rfl, r⟩ | ⟨Ta, vs, es, rfl, hn, rfl, rfl, r⟩
  · exact ⟨S, r, Ext.refl⟩
  · refine ⟨S.alloc hn, ?_, Ext.alloc hn⟩
    simp only [RV]
    exact ⟨Ta, vs, rfl, upd_same, r.alloc hn⟩

/-! ### for -/
def forL (g : GM) (body : MS) : List D → MS
  | [], env => .ret (.nx, env)
  | d :: ds, env => match g d env with
    | some env1 => (body env1).bind fun r => match r.1 with
      | .nx => forL g body ds r.2
      | .ct => forL g body ds r.2
      | .bk => .ret (.nx, r.2)
      | .rt v => .ret (.rt v, r.2)
    | none => .fail
def sFor (src : MI) (g : GM) (body : MS) : MS := fun env => (src env).bind fun r => forL g body r.1 r.2
theorem sFor_ok {src : MI} {t : TG} {g : GM} {sl : List Nat} {body : MS} {D : Ends} (hg : GOk K t g sl) (h : sM K Z (sFor src g body) D σ H) : tFor (tI K Z src) t (sM K Z body) D σ H := by
  obtain ⟨N, F, P, env, S, h⟩ := h
  refine ⟨N, F, P, env, S, T.ok_mono (fun N1 r1 q1 => ?_) (T.ok_bind h)⟩
  intro J H1 F1 P1 E1 S1 Y1 _
  have m01 := E1.mon S
  refine ⟨fun i m σ' H' => ∃ N2 F2 P2 env2 rest, m = rest.length ∧ r1.1.drop i = rest ∧ i + rest.length = r1.1.length ∧ Mon K F1 P1 H1 F2 P2 H' ∧ StR K Z N2 F2 P2 env2 σ' H' ∧ (forL g body rest env2).ok N2 (PostS K Z D F P H),
    ⟨r1.1.length, N1, F1, P1, r1.2, r1.1, rfl, rfl, by simp, Mon.refl, S1, q1⟩, ?_⟩
  rintro i m σ2 H2 ⟨N2, F2, P2, env2, rest, rfl, hd, hl, m12, S2, q2⟩
  obtain ⟨stop, go⟩ := Y1 F2 P2 H2 m12
  cases rest with
  | nil =>
    have hi : i = r1.1.length := by simpa using hl
    subst hi
    exact .inl ⟨stop, q2 σ2 H2 F2 P2 (m01.trans m12) S2⟩
  | cons d rest =>
    have hi : r1.1[i]? = some d := by
      have := congrArg (·[0]?) hd
      simpa [List.getElem?_drop] using this
    obtain ⟨g1, y1⟩ := go i d hi
    refine .inr ⟨g1, fun σ' H' => ∃ N3 F3 P3 env3, Mon K F1 P1 H1 F3 P3 H' ∧ StR K Z N3 F3 P3 env3 σ' H' ∧ (forL g body rest env3).ok N3 (PostS K Z D F P H), ?_, fun x H3 y => ?_⟩
    · rintro σ' H' ⟨N3, F3, P3, env3, m3, S3, q3⟩
      refine ⟨rest.length, by simp, N3, F3, P3, env3, rest, rfl, ?_, ?_, m3, S3, q3⟩
      · rw [← List.drop_drop, hd]; rfl
      · simp only [List.length_cons] at hl; omega
    · obtain ⟨S3, r3, E3⟩ := yield_rv S2 (y1 x H3 y)
      simp only [forL] at q2
      split at q2
      · rename_i env3 e3
        refine hg S3 r3 e3 fun σ' _ S4 => ⟨N2, F2, P2, env3, S4, T.ok_mono (fun N5 r5 q5 => ?_) (T.ok_bind q2)⟩
        intro σ5 H5 F5 P5 m5 S5
        have m15 := m12.trans ((E3.mon S2).trans m5)
        obtain ⟨f, env5⟩ := r5
        cases f with
        | nx => exact ⟨N5, F5, P5, env5, m15, S5, q5⟩
        | ct => exact ⟨N5, F5, P5, env5, m15, S5, q5⟩
        | bk => exact q5 σ5 H5 F5 P5 (m01.trans m15) S5
        | rt v => exact q5 σ5 H5 F5 P5 (m01.trans m15) S5
      · exact q2.elim

/-! ### while -/
def whileL (c : MT) (body : MS) : Nat → MS
  | 0, _ => .fail
  | n + 1, env => (c env).bind fun r => match r.1 with
    | true => (body r.2).bind fun r => match r.1 with
      | .nx => whileL c body n r.2
      | .ct => whileL c body n r.2
      | .bk => .ret (.nx, r.2)
      | .rt v => .ret (.rt v, r.2)
    | false => .ret (.nx, r.2)
def sWhile (n : Nat) (c : MT) (body : MS) : MS := whileL c body n
theorem sWhile_ok {n : Nat} {c : MT} {body : MS} {D : Ends} (h : sM K Z (sWhile n c body) D σ H) : tWhile (tT K Z c) (sM K Z body) D σ H := by
  obtain ⟨N, F, P, env, S, h⟩ := h
  refine ⟨fun m σ' H' => ∃ N2 F2 P2 env2, Mon K F P H F2 P2 H' ∧ StR K Z N2 F2 P2 env2 σ' H' ∧ (whileL c body m env2).ok N2 (PostS K Z D F P H), ⟨n, N, F, P, env, Mon.refl, S, h⟩, ?_⟩
  rintro m σ2 H2 ⟨N2, F2, P2, env2, m2, S2, q2⟩
  cases m with
  | zero => exact q2.elim
  | succ m =>
    refine ⟨N2, F2, P2, env2, S2, T.ok_mono (fun N3 r3 q3 => ?_) (T.ok_bind q2)⟩
    intro H3 F3 P3 E3 S3
    have m3 := m2.trans (E3.mon S2)
    obtain ⟨b, env3⟩ := r3
    cases b with
    | false => exact iteF (q3 σ2 H3 F3 P3 m3 S3)
    | true =>
      refine iteT ⟨fun σ' H' => ∃ N4 F4 P4 env4, Mon K F P H F4 P4 H' ∧ StR K Z N4 F4 P4 env4 σ' H' ∧ (whileL c body m env4).ok N4 (PostS K Z D F P H), fun σ' H' w => ⟨m, Nat.lt_succ_self m, w⟩, ?_⟩
      refine ⟨N3, F3, P3, env3, S3, T.ok_mono (fun N5 r5 q5 => ?_) (T.ok_bind q3)⟩
      intro σ5 H5 F5 P5 m5 S5
      obtain ⟨f, env5⟩ := r5
      cases f with
      | nx => exact ⟨N5, F5, P5, env5, m3.trans m5, S5, q5⟩
      | ct => exact ⟨N5, F5, P5, env5, m3.trans m5, S5, q5⟩
      | bk => exact q5 σ5 H5 F5 P5 (m3.trans m5) S5
      | rt v => exact q5 σ5 H5 F5 P5 (m3.trans m5) S5

/-! ### comprehensions -/
def wipeE (e : Ev) : List Nat → Ev
  | [] => e
  | v :: vs => (wipeE e vs).set v none
/-- the block's own slots as they were -/
def backE (q e : Ev) : List Nat → Ev
  | [] => q
  | v :: vs => (backE q e vs).set v (e[v]?.getD none)
def compL (g : GM) (tt : MT) (elt : M) (vs : List Nat) : List D → List D → Ev → T (List D × Ev)
  | [], acc, env => .ret (acc, env)
  | d :: ds, acc, env => match g d env with
    | some env1 => (tt env1).bind fun rb => match rb.1 with
      | true => (elt rb.2).bind fun re => match fz re.2 re.1 with
        | some (x, env2) => compL g tt elt vs ds (acc ++ [x]) (wipeE env2 vs)
        | none => .fail
      | false => compL g tt elt vs ds acc (wipeE rb.2 vs)
    | none => .fail
def free1 (e : Ev) (v : Nat) : Bool := match e[v]? with
  | some (some (true, _)) => false
  | _ => true
def eComp (vs : List Nat) (src : MI) (g : GM) (tt : MT) (elt : M) : M := fun env => (src env).bind fun r => if vs.all (free1 r.2) = true then
    (compL g tt elt vs r.1 [] (wipeE r.2 vs)).bind fun q => .ret (.tmp (.lst q.1), backE q.2 r.2 vs)
  else .fail
theorem wipeE_length (e : Ev) : ∀ vs : List Nat, (wipeE e vs).length = e.length
  | [] => rfl
  | v :: vs => by unfold wipeE; rw [List.length_set, wipeE_length e vs]
theorem backE_length (q e : Ev) : ∀ vs : List Nat, (backE q e vs).length = q.length
  | [] => rfl
  | v :: vs => by unfold backE; rw [List.length_set, backE_length q e vs]
theorem wipeE_get (e : Ev) {i : Nat} : ∀ {vs : List Nat}, (wipeE e vs)[i]? = if i ∈ vs ∧ i < e.length then some none else e[i]?
  | [] => by simp [wipeE]
  | v :: vs => by
    unfold wipeE
    by_cases h : v = i
    · subst h
      by_cases hl : v < e.length
      · rw [List.getElem?_set_self (by rw [wipeE_length]; exact hl), if_pos ⟨by simp, hl⟩]
      · rw [List.getElem?_eq_none (by rw [List.length_set, wipeE_length]; omega), if_neg (fun z => hl z.2), List.getElem?_eq_none (by omega)]
    · rw [List.getElem?_set_ne h, wipeE_get e]
      simp [show ¬ i = v from fun z => h z.symm]
theorem wipe_get (σ : L2.St) {i : Nat} : ∀ {vs : List Nat}, (wipe σ vs)[i]? = if i ∈ vs ∧ i < σ.length then some none else σ[i]?
  | [] => by simp [wipe]
  | v :: vs => by
    unfold wipe
    by_cases h : v = i
    · subst h
      by_cases hl : v < σ.length
      · rw [List.getElem?_set_self (by rw [wipe_length]; exact hl), if_pos ⟨by simp, hl⟩]
      · rw [List.getElem?_eq_none (by rw [List.length_set, wipe_length]; omega), if_neg (fun z => hl z.2), List.getElem?_eq_none (by omega)]
    · rw [List.getElem?_set_ne h, wipe_get σ]
      simp [show ¬ i = v from fun z => h z.symm]
theorem backE_get (q e : Ev) {i : Nat} : ∀ {vs : List Nat}, (backE q e vs)[i]? = if i ∈ vs ∧ i < q.length then some (e[i]?.getD none) else q[i]?
  | [] => by simp [backE]
  | v :: vs => by
    unfold backE
    by_cases h : v = i
    · subst h
      by_cases hl : v < q.length
      · rw [List.getElem?_set_self (by rw [backE_length]; exact hl), if_pos ⟨by simp, hl⟩]
      · rw [List.getElem?_eq_none (by rw [List.length_set, backE_length]; omega), if_neg (fun z => hl z.2), List.getElem?_eq_none (by omega)]
    · rw [List.getElem?_set_ne h, backE_get q e]
      simp [show ¬ i = v from fun z => h z.symm]
theorem StR.wipe {vs : List Nat} (S : StR K Z N F P env σ H) : StR K Z N F P (wipeE env vs) (L2.wipe σ vs) H := by
  have sub : ∀ (j : Nat) x, (wipeE env vs)[j]? = some (some x) → env[j]? = some (some x) ∧ j ∉ vs := fun j x q => by
    rw [wipeE_get] at q
    split at q
    · cases q
    · rename_i h
      refine ⟨q, fun z => h ⟨z, (List.getElem?_eq_some_iff.mp q).1⟩⟩
  have kp : ∀ (j : Nat), j ∉ vs → (L2.wipe σ vs)[j]? = σ[j]? := fun j h => by
    rw [wipe_get, if_neg (fun z => h z.1)]
  refine { len := by rw [wipeE_length, wipe_length]; exact S.len, fz := fun j x q => ?_, ow := fun j x q => ?_, inj := fun j k x y q q' z => ?_, same := S.same, frF := S.frF, frP := S.frP, subF := S.subF, subP := S.subP, trF := S.trF, pot := S.pot, dis := S.dis, nle := S.nle }
  · obtain ⟨q, hj⟩ := sub j _ q
    rw [kp j hj]; exact S.fz j x q
  · obtain ⟨q, hj⟩ := sub j _ q
    rw [kp j hj]; exact S.ow j x q
  · obtain ⟨q, hj⟩ := sub j _ q
    obtain ⟨q', hk⟩ := sub k _ q'
    rw [kp j hj, kp k hk] at z
    exact S.inj j k x y q q' z
theorem owned_wipe {vs : List Nat} (b : Addr) (o : Owned (wipeE env vs) (L2.wipe σ vs) b) : Owned env σ b := by
  obtain ⟨j, d, e1, e2⟩ := o
  rw [wipeE_get] at e1
  split at e1
  · cases e1
  · rename_i h
    rw [wipe_get] at e2
    split at e2
    · cases e2
    · exact ⟨j, d, e1, e2⟩
/-- an object that is nobody's but ours is written -/
theorem StR.upd {a : Addr} {vs ws : List V} (S : StR K Z N F P env σ H) (ha : H a = some (.lst vs)) (nf : ¬ F a) (np : ¬ P a) (no : ¬ Owned env σ a) (h0 : Z.H0 a = none) :
    StR K Z N F P env σ (L2.upd H a (.lst ws)) ∧ Mon K F P H F P (L2.upd H a (.lst ws)) := by
  have kp : ∀ b u, b ≠ a → H b = some u → L2.upd H a (.lst ws) b = some u := fun b u h e => by rw [upd_ne h]; exact e
  have m : Mon K F P H F P (L2.upd H a (.lst ws)) := ⟨fun _ h => h, fun _ h => h, fun b xs h => kp _ _ (fun z => by subst z; rw [ha] at h; cases h) h, fun b xs f h => kp _ _ (fun z => nf (z ▸ f)) h, fun b o u h => kp _ _ (fun z => by subst z; rw [ha] at h; cases h) h⟩
  refine ⟨{ len := S.len, fz := fun i d e => ?_, ow := fun i d e => ?_, inj := S.inj, same := fun b o h p => ?_, frF := S.frF, frP := S.frP, subF := S.subF, subP := S.subP, trF := fun b h => ?_, pot := fun b h => ?_, dis := S.dis, nle := S.nle }, m⟩
  · obtain ⟨v, e1, r⟩ := S.fz i d e
    exact ⟨v, e1, r.mono m⟩
  · obtain ⟨b, e1, o, nf', np', h0'⟩ := S.ow i d e
    have hb : b ≠ a := fun z => no (z ▸ ⟨i, d, e, e1⟩)
    exact ⟨b, e1, o.mono m fun vs z => kp _ _ hb z, nf', np', h0'⟩
  · refine kp _ _ (fun z => ?_) (S.same b o h p)
    subst z; rw [h0] at h; cases h
  · obtain ⟨o, e⟩ := S.trF b h
    exact ⟨o, kp _ _ (fun z => nf (z ▸ h)) e⟩
  · have q := S.pot b h
    have hb : b ≠ a := fun z => np (by rw [← z]; exact h)
    rw [upd_ne hb]; exact q
theorem Ext.upd {a : Addr} {o : HO} (E : Ext σ e0 F0 P0 H0 env F P H) (ha : H0 a = none ∨ Owned e0 σ a) : Ext σ e0 F0 P0 H0 env F P (L2.upd H a o) where
  fF := E.fF
  pP := E.pP
  own := E.own
  slot := E.slot
  keep := fun b u h p ow => by
    refine (upd_ne (fun z => ?_)).trans (E.keep b u h p ow)
    subst z
    rcases ha with q | q
    · rw [h] at q; cases q
    · exact ow q
  newF := E.newF
  newP := E.newP
  trk := fun b h => by
    unfold L2.upd
    split
    · simp
    · exact E.trk b h
theorem wipe_eq {sl vs : List Nat} {σ' : L2.St} (h : ∀ j, j ∉ sl → σ'[j]? = σ[j]?) (hl : σ'.length = σ.length) (hs : ∀ j ∈ sl, j ∈ vs) : L2.wipe σ' vs = L2.wipe σ vs := by
  apply List.ext_getElem?
  intro j
  rw [wipe_get, wipe_get, hl]
  by_cases hj : j ∈ vs ∧ j < σ.length
  · rw [if_pos hj, if_pos hj]
  · rw [if_neg hj, if_neg hj]
    by_cases h1 : j < σ.length
    · exact h j fun z => hj ⟨hs j z, h1⟩
    · rw [List.getElem?_eq_none (by omega), List.getElem?_eq_none (by omega)]
theorem wipe_wipe {vs : List Nat} : L2.wipe (L2.wipe σ vs) vs = L2.wipe σ vs := by
  apply List.ext_getElem?
  intro j
  rw [wipe_get, wipe_length, wipe_get]
  split <;> rfl
theorem StR.back {vs : List Nat} {er : Ev} (S1 : StR K Z N F P er σ H) (hv : vs.all (free1 er) = true) (S2 : StR K Z N' F' P' env (L2.wipe σ vs) H') (m : Mon K F P H F' P' H') : StR K Z N' F' P' (backE env er vs) σ H' := by
  have hl : env.length = er.length := by
    have h1 := S1.len
    have h2 := S2.len
    rw [wipe_length] at h2
    omega
  have inn : ∀ (j : Nat) fl x, (backE env er vs)[j]? = some (some (fl, x)) → j ∈ vs → er[j]? = some (some (fl, x)) ∧ fl = false := fun j fl x q hj => by
    rw [backE_get] at q
    split at q
    · have q' : er[j]?.getD none = some (fl, x) := Option.some.inj q
      have e1 : er[j]? = some (some (fl, x)) := by
        cases z : er[j]? with
        | none => rw [z] at q'; cases q'
        | some y => rw [z] at q'; exact congrArg some q'
      refine ⟨e1, ?_⟩
      have := List.all_eq_true.mp hv j hj
      unfold free1 at this
      rw [e1] at this
      cases fl with
      | false => rfl
      | true => simp at this
    · rename_i h
      have : j < env.length := (List.getElem?_eq_some_iff.mp q).1
      exact absurd ⟨hj, this⟩ h
  have out : ∀ (j : Nat) x, (backE env er vs)[j]? = some x → j ∉ vs → env[j]? = some x ∧ (L2.wipe σ vs)[j]? = σ[j]? := fun j x q hj => by
    rw [backE_get, if_neg (fun z => hj z.1)] at q
    exact ⟨q, by rw [wipe_get, if_neg (fun z => hj z.1)]⟩
  refine { len := by rw [backE_length, hl]; exact S1.len, fz := fun j x q => ?_, ow := fun j x q => ?_, inj := fun j k x y q q' z => ?_, same := S2.same, frF := S2.frF, frP := S2.frP, subF := S2.subF, subP := S2.subP, trF := S2.trF, pot := S2.pot, dis := S2.dis, nle := S2.nle }
  · by_cases hj : j ∈ vs
    · obtain ⟨v, e1, r⟩ := S1.fz j x (inn j _ x q hj).1
      exact ⟨v, e1, r.mono m⟩
    · obtain ⟨q1, q2⟩ := out j _ q hj
      rw [← q2]; exact S2.fz j x q1
  · by_cases hj : j ∈ vs
    · cases (inn j _ x q hj).2
    · obtain ⟨q1, q2⟩ := out j _ q hj
      rw [← q2]; exact S2.ow j x q1
  · by_cases hj : j ∈ vs
    · cases (inn j _ x q hj).2
    · by_cases hk : k ∈ vs
      · cases (inn k _ y q' hk).2
      · obtain ⟨q1, q2⟩ := out j _ q hj
        obtain ⟨q3, q4⟩ := out k _ q' hk
        exact S2.inj j k x y q1 q3 (by rw [q2, q4]; exact z)
theorem Ext.back {vs : List Nat} {er : Ev} (S1 : StR K Z N F P er σ H) (hv : vs.all (free1 er) = true) (hl : env.length = er.length) (E : Ext (L2.wipe σ vs) (wipeE er vs) F P H env F' P' H') : Ext σ er F P H (backE env er vs) F' P' H' where
  fF := E.fF
  pP := E.pP
  own := fun b ⟨j, x, q, e2⟩ => by
    rw [backE_get] at q
    by_cases hj : j ∈ vs ∧ j < env.length
    · rw [if_pos hj] at q
      have q' : er[j]?.getD none = some (true, x) := Option.some.inj q
      have e1 : er[j]? = some (some (true, x)) := by
        cases z : er[j]? with
        | none => rw [z] at q'; cases q'
        | some y => rw [z] at q'; exact congrArg some q'
      exact ⟨j, x, e1, e2⟩
    · rw [if_neg hj] at q
      have hj' : j ∉ vs := fun z => hj ⟨z, (List.getElem?_eq_some_iff.mp q).1⟩
      exact owned_wipe b (E.own b ⟨j, x, q, by rw [wipe_get, if_neg (fun z => hj' z.1)]; exact e2⟩)
  slot := fun j fl x e => by
    rw [backE_get]
    by_cases hj : j ∈ vs ∧ j < env.length
    · rw [if_pos hj, e]
      exact ⟨fl, x, rfl⟩
    · rw [if_neg hj]
      have hjl : j < er.length := (List.getElem?_eq_some_iff.mp e).1
      have hj' : j ∉ vs := fun z => hj ⟨z, by omega⟩
      exact E.slot j fl x (by rw [wipeE_get, if_neg (fun z => hj' z.1)]; exact e)
  keep := fun b o h p ow => E.keep b o h p fun z => ow (owned_wipe b z)
  newF := fun a h => by
    rcases E.newF a h with q | q | q
    · exact .inl q
    · exact .inr (.inl q)
    · exact .inr (.inr (owned_wipe a q))
  newP := E.newP
  trk := E.trk
theorem eComp_ok {vs sl : List Nat} {src : MI} {t : TG} {g : GM} {tt : MT} {elt : M} {Q : VK} (hg : GOk K t g sl) (hsl : ∀ j ∈ sl, j ∈ vs) (h : tM K Z (eComp vs src g tt elt) σ H Q) : tLc (tI K Z src) t (tT K Z tt) (tM K Z elt) vs σ H Q := by
  obtain ⟨N, F, P, env, S, h⟩ := h
  refine ⟨N, F, P, env, S, T.ok_mono (fun N1 r1 q1 => ?_) (T.ok_bind h)⟩
  intro J H1 F1 P1 E1 S1 Y1 hlen Da hDa
  split at q1
  · rename_i hv
    obtain ⟨nF, nP, nO, h0⟩ := S1.noneF hDa
    have q1' := T.ok_bind q1
    refine ⟨fun i m H' => ∃ N2 F2 P2 env2 rest acc avs, m = rest.length ∧ r1.1.drop i = rest ∧ i + rest.length = r1.1.length ∧ acc.length ≤ i ∧ H' Da = some (.lst avs) ∧ RVs K F2 P2 H' acc avs ∧ ¬ F2 Da ∧ ¬ P2 Da ∧ (∃ e, env2 = wipeE e vs) ∧
        StR K Z N2 F2 P2 env2 (L2.wipe σ vs) H' ∧ Ext (L2.wipe σ vs) (wipeE r1.2 vs) F1 P1 H1 env2 F2 P2 H' ∧ (compL g tt elt vs rest acc env2).ok N2 fun N' a => (T.ret (Hd.tmp (.lst a.1), backE a.2 r1.2 vs)).ok N' fun N' r => Post K Z σ env F P H Q N' r,
      ⟨r1.1.length, N1, F1, P1, wipeE r1.2 vs, r1.1, [], [], rfl, rfl, by simp, Nat.le_refl _, upd_same, .nil, nF, nP, ⟨_, rfl⟩, S1.wipe.alloc hDa, Ext.alloc hDa, q1'⟩, ?_⟩
    rintro i m H2 ⟨N2, F2, P2, env2, rest, acc, avs, rfl, hd, hl, hacc, hD, racc, nf2, np2, ⟨ew, hew⟩, S2, E2, q2⟩
    have m12 : Mon K F1 P1 H1 F2 P2 H2 := E2.mon S1.wipe
    have no2 : ¬ Owned env2 (L2.wipe σ vs) Da := fun z => nO (owned_wipe Da (E2.own Da z))
    obtain ⟨stop, go⟩ := Y1 F2 P2 H2 m12
    cases rest with
    | nil =>
      have hi : i = r1.1.length := by simpa using hl
      subst hi
      refine .inl ⟨stop, ?_⟩
      have q3 : Post K Z σ env F P H Q N2 (.tmp (.lst acc), backE env2 r1.2 vs) := q2
      have hlE : env2.length = r1.2.length := by
        have h1 := S1.len
        have h2 := S2.len
        rw [wipe_length] at h2
        omega
      refine q3 (.ref Da) H2 F2 P2 (E1.trans (Ext.back S1 hv hlE E2)) (S1.back hv S2 m12) ⟨Da, rfl, ⟨avs, hD, racc⟩, nf2, np2, fun z => ?_, h0⟩ ?_
      · exact nO ((Ext.back S1 hv hlE E2).own Da z)
      · exact Young.back (h := .tmp (.lst acc)) E1 ⟨Da, rfl, hDa⟩
    | cons d rest =>
      have hi : r1.1[i]? = some d := by
        have := congrArg (·[0]?) hd
        simpa [List.getElem?_drop] using this
      obtain ⟨g1, y1⟩ := go i d hi
      have hlt : acc.length < sizeLine := by
        simp only [List.length_cons] at hl
        omega
      refine .inr ⟨g1, fun H' => ∃ N3 F3 P3 env3 acc3 avs3, acc3.length ≤ i + 1 ∧ H' Da = some (.lst avs3) ∧ RVs K F3 P3 H' acc3 avs3 ∧ ¬ F3 Da ∧ ¬ P3 Da ∧ (∃ e, env3 = wipeE e vs) ∧
        StR K Z N3 F3 P3 env3 (L2.wipe σ vs) H' ∧ Ext (L2.wipe σ vs) (wipeE r1.2 vs) F1 P1 H1 env3 F3 P3 H' ∧ (compL g tt elt vs rest acc3 env3).ok N3 fun N' a => (T.ret (Hd.tmp (.lst a.1), backE a.2 r1.2 vs)).ok N' fun N' r => Post K Z σ env F P H Q N' r, ?_, fun x H3 y => ?_⟩
      · rintro H' ⟨N3, F3, P3, env3, acc3, avs3, ha3, hD3, ra3, nf3, np3, hw3, S3, E3, q3⟩
        refine ⟨rest.length, by simp, N3, F3, P3, env3, rest, acc3, avs3, rfl, ?_, ?_, ha3, hD3, ra3, nf3, np3, hw3, S3, E3, q3⟩
        · rw [← List.drop_drop, hd]; rfl
        · simp only [List.length_cons] at hl; omega
      · obtain ⟨S3, r3, E3⟩ := yield_rv S2 (y1 x H3 y)
        have hD3 : H3 Da = some (.lst avs) := E3.keep Da _ hD np2 no2
        have ra3 : RVs K F2 P2 H3 acc avs := racc.mono (E3.mon S2)
        simp only [compL] at q2
        split at q2
        · rename_i env3 e3
          refine hg S3 r3 e3 fun σ4 k4 S4 => ⟨?_, N2, F2, P2, env3, S4, T.ok_mono (fun N5 r5 q5 => ?_) (T.ok_bind q2)⟩
          · rw [wipe_eq k4.at_ k4.len hsl, wipe_wipe]
          have wσ : L2.wipe σ4 vs = L2.wipe σ vs := by rw [wipe_eq k4.at_ k4.len hsl, wipe_wipe]
          have no4 : ¬ Owned env3 σ4 Da := fun z => no2 (k4.own Da z)
          -- from a state over σ4 to the wiped one
          have fin : ∀ {env6 : Ev} {F6 P6 : Addr → Prop} {H6 : Hp}, Ext σ4 env3 F2 P2 H3 env6 F6 P6 H6 → Ext (L2.wipe σ vs) env2 F2 P2 H2 (wipeE env6 vs) F6 P6 H6 := fun {env6 F6 P6 H6} E6 => by
            have own6 : ∀ b, Owned (wipeE env6 vs) (L2.wipe σ vs) b → Owned env2 (L2.wipe σ vs) b := fun b o => k4.own b (E6.own b (owned_wipe b (by rw [wσ]; exact o)))
            refine ⟨E6.fF, E6.pP, own6, fun j fl z e => ?_, fun b o h p ow => ?_, fun a h => ?_, fun a h => ?_, fun b h => E6.trk b (E3.trk b h)⟩
            · have hjv : j ∉ vs := fun hj => by
                have hjl : j < ew.length := by
                  have := (List.getElem?_eq_some_iff.mp e).1
                  rw [hew, wipeE_length] at this; exact this
                rw [hew, wipeE_get, if_pos ⟨hj, hjl⟩] at e
                cases e
              obtain ⟨fl1, z1, e1⟩ := k4.slot j fl z e
              obtain ⟨fl2, z2, e2⟩ := E6.slot j fl1 z1 e1
              exact ⟨fl2, z2, by rw [wipeE_get, if_neg (fun z => hjv z.1)]; exact e2⟩
            · exact E6.keep b o (E3.keep b o h p ow) p fun z => ow (k4.own b z)
            · rcases E6.newF a h with q | q | q
              · exact .inl q
              · cases z : H2 a with
                | none => exact .inr (.inl rfl)
                | some o => exact absurd q (E3.trk a (by rw [z]; simp))
              · exact .inr (.inr (k4.own a q))
            · rcases E6.newP a h with q | q
              · exact .inl q
              · cases z : H2 a with
                | none => exact .inr rfl
                | some o => exact absurd q (E3.trk a (by rw [z]; simp))
          intro H5 F5 P5 E5 S5
          obtain ⟨b, env5⟩ := r5
          have nD5 : ¬ F5 Da ∧ ¬ P5 Da := ⟨fun z => by
            rcases E5.newF Da z with q | q | q
            · exact nf2 q
            · rw [hD3] at q; cases q
            · exact no4 q, fun z => by
            rcases E5.newP Da z with q | q
            · exact np2 q
            · rw [hD3] at q; cases q⟩
          have hD5 : H5 Da = some (.lst avs) := E5.keep Da _ hD3 np2 no4
          have ra5 : RVs K F5 P5 H5 acc avs := ra3.mono (E5.mon S4)
          cases b with
          | false =>
            refine iteF ⟨N5, F5, P5, wipeE env5 vs, acc, avs, by omega, hD5, ra5, nD5.1, nD5.2, ⟨_, rfl⟩, ?_, E2.trans (fin E5), q5⟩
            rw [← wσ]; exact S5.wipe
          | true =>
            have no5 : ¬ Owned env5 σ4 Da := fun z => no4 (E5.own Da z)
            refine iteT ⟨N5, F5, P5, env5, S5, T.ok_mono (fun N6 r6 q6 => ?_) (T.ok_bind q5)⟩
            intro v H6 F6 P6 E6 S6 R6 Y6
            split at q6
            · rename_i xd env7 e7
              obtain ⟨F7, E7, S7, rv⟩ := R6.freeze E6 S6 Y6 e7
              have nD7 : ¬ F7 Da ∧ ¬ P6 Da := ⟨fun z => by
                rcases E7.newF Da z with q | q | q
                · exact nD5.1 q
                · rw [hD5] at q; cases q
                · exact no5 q, fun z => by
                rcases E7.newP Da z with q | q
                · exact nD5.2 q
                · rw [hD5] at q; cases q⟩
              have hD7 : H6 Da = some (.lst avs) := E7.keep Da _ hD5 nD5.2 no5
              have ra7 : RVs K F7 P6 H6 acc avs := ra5.mono (E7.mon S5)
              have no7 : ¬ Owned env7 σ4 Da := fun z => no5 (E7.own Da z)
              have hal : avs.length = acc.length := ra7.length
              refine ⟨avs, hD7, by rw [hal]; exact hlt, ?_⟩
              obtain ⟨S8, m8⟩ := S7.upd (ws := avs ++ [v]) hD7 nD7.1 nD7.2 no7 h0
              refine ⟨N6, F7, P6, wipeE env7 vs, acc ++ [xd], avs ++ [v], by simp; omega, upd_same, (ra7.append (.one rv)).mono m8, nD7.1, nD7.2, ⟨_, rfl⟩, ?_, ?_, q6⟩
              · rw [← wσ]; exact S8.wipe
              · exact (E2.trans (fin (E5.trans E7))).upd (.inl hDa)
            · exact q6.elim
        · exact q2.elim
  · exact q1.elim
end
end Mi
set_option Elab.async false
set_option linter.all false
set_option maxRecDepth 100000
set_option maxHeartbeats 2000000
namespace Mi
open PySem PySem.Spec PyProof.Rows L2

/-! ### == of data -/
def eqL (f : D → D → Option Bool) : List D → List D → Option Bool
  | [], [] => some true
  | [], _ :: _ => some false
  | _ :: _, [] => some false
  | x :: xs, y :: ys => match f x y, eqL f xs ys with
    | some b, some r => some (b && r)
    | _, _ => none
def eqDn : Nat → D → D → Option Bool
  | 0, _, _ => none
  | _ + 1, .non, .non => some true
  | _ + 1, .bl a, .bl b => some (a == b)
  | _ + 1, .bl a, .int j => some ((if a then 1 else 0) == j)
  | _ + 1, .int i, .bl b => some (i == (if b then 1 else 0))
  | _ + 1, .int i, .int j => some (i == j)
  | _ + 1, .str x, .str y => some (x == y)
  | n + 1, .tup xs, .tup ys => eqL (eqDn n) xs ys
  | n + 1, .lst xs, .lst ys => if xs.length = ys.length then eqL (eqDn n) xs ys else some false
  | _ + 1, .non, .bl _ => some false
  | _ + 1, .non, .int _ => some false
  | _ + 1, .non, .str _ => some false
  | _ + 1, .non, .tup _ => some false
  | _ + 1, .non, .lst _ => some false
  | _ + 1, .bl _, .non => some false
  | _ + 1, .bl _, .str _ => some false
  | _ + 1, .bl _, .tup _ => some false
  | _ + 1, .bl _, .lst _ => some false
  | _ + 1, .int _, .non => some false
  | _ + 1, .int _, .str _ => some false
  | _ + 1, .int _, .tup _ => some false
  | _ + 1, .int _, .lst _ => some false
  | _ + 1, .str _, .non => some false
  | _ + 1, .str _, .bl _ => some false
  | _ + 1, .str _, .int _ => some false
  | _ + 1, .str _, .tup _ => some false
  | _ + 1, .str _, .lst _ => some false
  | _ + 1, .tup _, .non => some false
  | _ + 1, .tup _, .bl _ => some false
  | _ + 1, .tup _, .int _ => some false
  | _ + 1, .tup _, .str _ => some false
  | _ + 1, .tup _, .lst _ => some false
  | _ + 1, .lst _, .non => some false
  | _ + 1, .lst _, .bl _ => some false
  | _ + 1, .lst _, .int _ => some false
  | _ + 1, .lst _, .str _ => some false
  | _ + 1, .lst _, .tup _ => some false
  | _ + 1, _, _ => none

/-! ### data in the very heap -/
section
variable (h : Heap)
mutual
def Vd : D → Value → Prop
  | .non, u => u = .none
  | .bl b, u => u = .bool b
  | .int i, u => ∃ t, u = .int i t
  | .str x, u => ∃ t, u = .str ⟨x.toArray⟩ t
  | .tup ds, u => ∃ (a : Addr) (its : List Value), u = .ref a ∧ IsTup h a its.toArray ∧ Vds ds its
  | .lst ds, u => ∃ (a : Addr) (its : List Value), u = .ref a ∧ h.IsList a its.toArray ∧ Vds ds its
  | _, _ => True
def Vds : List D → List Value → Prop
  | [], us => us = []
  | d :: ds, us => ∃ u ur, us = u :: ur ∧ Vd d u ∧ Vds ds ur
end
end
section
variable {h : Heap}
theorem Vds.length : ∀ {ds : List D} {us : List Value}, Vds h ds us → us.length = ds.length
  | [], us, q => by simp only [Vds] at q; subst q; rfl
  | d :: ds, us, q => by
    simp only [Vds] at q
    obtain ⟨u, ur, e, _, r⟩ := q
    subst e
    simp [Vds.length r]
theorem Vds.get : ∀ {ds : List D} {us : List Value} {i : Nat} {d : D} {u : Value}, Vds h ds us → ds[i]? = some d → us[i]? = some u → Vd h d u
  | [], us, i, d, u, q, e, _ => by simp at e
  | d :: ds, us, 0, d', u', q, e, e' => by
    simp only [Vds] at q
    obtain ⟨u, ur, e1, q, r⟩ := q
    subst e1
    simp at e e'
    subst e; subst e'
    exact q
  | d :: ds, us, i + 1, d', u', q, e, e' => by
    simp only [Vds] at q
    obtain ⟨u, ur, e1, q, r⟩ := q
    subst e1
    exact Vds.get (i := i) r (by simpa using e) (by simpa using e')
end
section
variable {X : Cx} {pins : List (Addr × Obj)} {σ : L2.St} {H : Hp} {s : Shared} {F P : Addr → Prop}
mutual
theorem RV.vd (I : Inv X pins σ H s) : ∀ (d : D) (v : V) (u : Value), RV X.K F P H d v → RelV v u → Vd s.heap d u
  | .non, v, u, q, r => by simp only [RV] at q; subst q; simp only [Vd]; exact r
  | .bl b, v, u, q, r => by simp only [RV] at q; subst q; simp only [Vd]; exact r
  | .int i, v, u, q, r => by simp only [RV] at q; subst q; simp only [Vd]; exact r
  | .str x, v, u, q, r => by simp only [RV] at q; subst q; simp only [Vd]; exact r
  | .tup ds, v, u, q, r => by
    simp only [RV] at q
    obtain ⟨a, vs, e, sq, rs⟩ := q
    subst e
    obtain ⟨its, rv, p, _⟩ := I.tuple (.of sq)
    simp only [Vd]
    exact ⟨a, its, r, p, RVs.vd I ds vs its rs rv⟩
  | .lst ds, v, u, q, r => by
    simp only [RV] at q
    obtain ⟨a, vs, e, f, sq, rs⟩ := q
    subst e
    obtain ⟨its, rv, p, _⟩ := I.list (.of sq)
    simp only [Vd]
    exact ⟨a, its, r, p.isList, RVs.vd I ds vs its rs rv⟩
  | .dic _, v, u, q, r => by simp only [RV] at q
  | .pot, v, u, q, r => by simp only [Vd]
  | .scr _, v, u, q, r => by simp only [Vd]
  | .rep _, v, u, q, r => by simp only [RV] at q
theorem RVs.vd (I : Inv X pins σ H s) : ∀ (ds : List D) (vs : List V) (us : List Value), RVs X.K F P H ds vs → Vals vs us → Vds s.heap ds us
  | [], vs, us, q, r => by rw [q.unnil] at r; cases r; simp only [Vds]
  | d :: ds, vs, us, q, r => by
    obtain ⟨v, vr, rfl, q1, qr⟩ := q.uncons
    cases r with
    | cons r1 rr =>
      simp only [Vds]
      exact ⟨_, _, rfl, RV.vd I d v _ q1 r1, RVs.vd I ds vr _ qr rr⟩
end
theorem RC.vd (I : Inv X pins σ H s) {d : D} {v : V} {u : Value} (q : RC X.K F P H d v) (r : RelV v u) : Vd s.heap d u := by
  rcases q with q | ⟨a, e, o⟩
  · exact RV.vd I d v u q r
  · subst e
    cases d with
    | lst ds =>
      obtain ⟨vs, ha, rs⟩ := o
      obtain ⟨its, rv, p, _⟩ := I.list (.of ha)
      simp only [Vd]
      exact ⟨a, its, r, p.isList, RVs.vd I ds vs its rs rv⟩
    | _ => exact o.elim
end
mutual
/-- none, bools, ints, texts, tuples and lists of such -/
def plD : D → Bool
  | .tup ds => plDs ds
  | .lst ds => plDs ds
  | .non => true
  | .bl _ => true
  | .int _ => true
  | .str _ => true
  | _ => false
def plDs : List D → Bool
  | [] => true
  | d :: ds => plD d && plDs ds
end
theorem eqL_pl {n : Nat} (ih : ∀ d e b, eqDn n d e = some b → plD d = true ∧ plD e = true) : ∀ {xs ys : List D} {b : Bool}, xs.length = ys.length → eqL (eqDn n) xs ys = some b → plDs xs = true ∧ plDs ys = true
  | [], [], _, _, _ => ⟨rfl, rfl⟩
  | [], _ :: _, _, h, _ => by simp at h
  | _ :: _, [], _, h, _ => by simp at h
  | x :: xs, y :: ys, b, h, e => by
    simp only [eqL] at e
    split at e
    · rename_i b1 r1 e1 e2
      have h1 := ih x y _ e1
      have h2 := eqL_pl ih (by simpa using h) e2
      simp [plDs, h1, h2]
    · cases e
theorem not_both {h : Heap} {a : Addr} {xs ys : Array Value} (l : h.IsList a xs) (t : IsTup h a ys) : False := by
  obtain ⟨o, ho, hc, _⟩ := l
  obtain ⟨o', ho', hc', _⟩ := t
  rw [ho] at ho'; cases ho'
  rw [hc] at hc'
  exact absurd (Value.type.inj hc') (by decide)
mutual
theorem Vd.inj {h : Heap} : ∀ (d d' : D) (u : Value), plD d = true → plD d' = true → Vd h d u → Vd h d' u → d = d'
  | .non, d', u, _, p, q, q' => by
    simp only [Vd] at q; subst q
    cases d' <;> simp only [Vd] at q' <;> first | rfl | (obtain ⟨_, _, e, _⟩ := q'; cases e; done) | (obtain ⟨_, e⟩ := q'; cases e; done) | (cases q'; done) | (simp [plD] at p)
  | .bl b, d', u, _, p, q, q' => by
    simp only [Vd] at q; subst q
    cases d' <;> simp only [Vd] at q' <;> first | (obtain ⟨_, _, e, _⟩ := q'; cases e; done) | (obtain ⟨_, e⟩ := q'; cases e; done) | (cases q'; done) | (cases q'; rfl) | (simp [plD] at p)
  | .int i, d', u, _, p, q, q' => by
    simp only [Vd] at q; obtain ⟨t, q⟩ := q; subst q
    cases d' <;> simp only [Vd] at q' <;> first | (obtain ⟨_, _, e, _⟩ := q'; cases e; done) | (obtain ⟨_, e⟩ := q'; cases e; rfl) | (obtain ⟨_, e⟩ := q'; cases e; done) | (cases q'; done) | (simp [plD] at p)
  | .str x, d', u, _, p, q, q' => by
    simp only [Vd] at q; obtain ⟨t, q⟩ := q; subst q
    cases d' with
    | str y =>
      simp only [Vd] at q'
      obtain ⟨t', e⟩ := q'
      injection e with e1 _
      injection e1 with e1
      have : x = y := by simpa using congrArg Array.toList e1
      rw [this]
    | _ => simp only [Vd] at q' <;> first | (obtain ⟨_, _, e, _⟩ := q'; cases e; done) | (obtain ⟨_, e⟩ := q'; cases e; done) | (cases q'; done) | (simp [plD] at p)
  | .tup ds, d', u, p0, p, q, q' => by
    simp only [Vd] at q; obtain ⟨a, its, e, t, qs⟩ := q; subst e
    cases d' with
    | tup es =>
      simp only [Vd] at q'
      obtain ⟨a', its', e, t', qs'⟩ := q'
      cases e
      obtain ⟨o, ho, hc, n, hd⟩ := t
      obtain ⟨o', ho', hc', n', hd'⟩ := t'
      rw [ho] at ho'; cases ho'
      rw [hd] at hd'
      injection hd' with hd' _
      have : its = its' := by simpa using congrArg Array.toList hd'
      subst this
      rw [Vds.inj ds es its (by simpa [plD] using p0) (by simpa [plD] using p) qs qs']
    | lst es =>
      simp only [Vd] at q'
      obtain ⟨a', its', e, t', qs'⟩ := q'
      cases e
      exact (not_both t' t).elim
    | _ => simp only [Vd] at q' <;> first | (obtain ⟨_, e⟩ := q'; cases e; done) | (cases q'; done) | (simp [plD] at p)
  | .lst ds, d', u, p0, p, q, q' => by
    simp only [Vd] at q; obtain ⟨a, its, e, t, qs⟩ := q; subst e
    cases d' with
    | lst es =>
      simp only [Vd] at q'
      obtain ⟨a', its', e, t', qs'⟩ := q'
      cases e
      obtain ⟨o, ho, hc, n, hd⟩ := t
      obtain ⟨o', ho', hc', n', hd'⟩ := t'
      rw [ho] at ho'; cases ho'
      rw [hd] at hd'
      injection hd' with hd' _
      have : its = its' := by simpa using congrArg Array.toList hd'
      subst this
      rw [Vds.inj ds es its (by simpa [plD] using p0) (by simpa [plD] using p) qs qs']
    | tup es =>
      simp only [Vd] at q'
      obtain ⟨a', its', e, t', qs'⟩ := q'
      cases e
      exact (not_both t t').elim
    | _ => simp only [Vd] at q' <;> first | (obtain ⟨_, e⟩ := q'; cases e; done) | (cases q'; done) | (simp [plD] at p)
  | .dic _, _, _, p, _, _, _ => by simp [plD] at p
  | .pot, _, _, p, _, _, _ => by simp [plD] at p
  | .scr _, _, _, p, _, _, _ => by simp [plD] at p
  | .rep _, _, _, p, _, _, _ => by simp [plD] at p
theorem Vds.inj {h : Heap} : ∀ (ds ds' : List D) (us : List Value), plDs ds = true → plDs ds' = true → Vds h ds us → Vds h ds' us → ds = ds'
  | [], [], _, _, _, _, _ => rfl
  | [], d :: ds, us, _, _, q, q' => by
    simp only [Vds] at q q'
    obtain ⟨_, _, e, _⟩ := q'
    rw [q] at e; cases e
  | d :: ds, [], us, _, _, q, q' => by
    simp only [Vds] at q q'
    obtain ⟨_, _, e, _⟩ := q
    rw [q'] at e; cases e
  | d :: ds, d' :: ds', us, p, p', q, q' => by
    simp only [Vds] at q q'
    obtain ⟨u, ur, e, q1, qr⟩ := q
    obtain ⟨u', ur', e', q1', qr'⟩ := q'
    rw [e] at e'; cases e'
    simp only [plDs, Bool.and_eq_true] at p p'
    rw [Vd.inj d d' u p.1 p'.1 q1 q1', Vds.inj ds ds' ur p.2 p'.2 qr qr']
end

theorem eqL_len {f : D → D → Option Bool} : ∀ {xs ys : List D} {b : Bool}, eqL f xs ys = some b → xs.length ≠ ys.length → b = false
  | [], [], b, _, h => by simp at h
  | [], _ :: _, b, e, h => by cases e; rfl
  | _ :: _, [], b, e, h => by cases e; rfl
  | x :: xs, y :: ys, b, e, h => by
    simp only [eqL] at e
    split at e
    · rename_i b1 r1 e1 e2
      cases e
      rw [eqL_len e2 (fun z => h (by simp [z]))]
      simp
    · cases e
/-- the items' answers -/
def eqJ (f : D → D → Option Bool) (xs ys : List D) (j : Nat) : Bool := match xs[j]?, ys[j]? with
  | some x, some y => (f x y).getD false
  | _, _ => false
theorem eqL_all {f : D → D → Option Bool} : ∀ {xs ys : List D} {b : Bool}, eqL f xs ys = some b →
    b = ((List.range (min xs.length ys.length)).all (eqJ f xs ys) && xs.length == ys.length) ∧ ∀ (j : Nat) x y, xs[j]? = some x → ys[j]? = some y → f x y = some (eqJ f xs ys j)
  | [], [], b, e => by cases e; exact ⟨by simp, fun j x y h => by simp at h⟩
  | [], _ :: _, b, e => by cases e; exact ⟨by simp, fun j x y h => by simp at h⟩
  | _ :: _, [], b, e => by cases e; exact ⟨by simp, fun j x y _ h => by simp at h⟩
  | x :: xs, y :: ys, b, e => by
    simp only [eqL] at e
    split at e
    · rename_i b1 r1 e1 e2
      cases e
      obtain ⟨h1, h2⟩ := eqL_all e2
      have hj : ∀ j, eqJ f (x :: xs) (y :: ys) (j + 1) = eqJ f xs ys j := fun j => by simp [eqJ]
      refine ⟨?_, fun j a c ha hc => ?_⟩
      · have hm : min (x :: xs).length (y :: ys).length = min xs.length ys.length + 1 := by simp only [List.length_cons]; omega
        have h0 : eqJ f (x :: xs) (y :: ys) 0 = b1 := by simp [eqJ, e1]
        rw [hm, List.range_succ_eq_map, List.all_cons, List.all_map, h0]
        have hf : (eqJ f (x :: xs) (y :: ys) ∘ Nat.succ) = eqJ f xs ys := by funext j; exact hj j
        rw [hf, h1]
        have hl : ((x :: xs).length == (y :: ys).length) = (xs.length == ys.length) := by
          simp only [List.length_cons]
          by_cases q : xs.length = ys.length
          · simp [q]
          · have q' : ¬ xs.length + 1 = ys.length + 1 := by omega
            rw [beq_eq_false_iff_ne.mpr q, beq_eq_false_iff_ne.mpr q']
        rw [hl, Bool.and_assoc]
      · cases j with
        | zero =>
          simp at ha hc
          subst ha; subst hc
          simp [eqJ, e1]
        | succ j =>
          rw [hj]
          exact h2 j a c (by simpa using ha) (by simpa using hc)
    · cases e
theorem eq_same {h : Heap} : ∀ (n : Nat) (d e : D) (b : Bool) (u : Value), Vd h d u → Vd h e u → eqDn n d e = some b → b = true := by
  intro n
  induction n with
  | zero => intro d e b u _ _ q; cases d <;> cases e <;> cases q
  | succ n ih =>
    intro d e b u vd ve q
    cases d <;> cases e <;> simp only [eqDn] at q <;> first
      | (cases q; done)
      | (cases q; rfl)
      | skip
    all_goals simp only [Vd] at vd ve
    all_goals first
      | (subst vd; cases ve; done)
      | (subst vd; obtain ⟨_, _, z, _⟩ := ve; cases z; done)
      | (subst vd; obtain ⟨_, z⟩ := ve; cases z; done)
      | (obtain ⟨_, vd⟩ := vd; subst vd; cases ve; done)
      | (obtain ⟨_, vd⟩ := vd; subst vd; obtain ⟨_, _, z, _⟩ := ve; cases z; done)
      | (obtain ⟨_, vd⟩ := vd; subst vd; obtain ⟨_, z⟩ := ve; cases z; done)
      | (obtain ⟨_, _, vd, _⟩ := vd; subst vd; cases ve; done)
      | (obtain ⟨_, _, vd, _⟩ := vd; subst vd; obtain ⟨_, z⟩ := ve; cases z; done)
      | skip
    case bl.bl => subst vd; cases ve; cases q; simp
    case int.int =>
      obtain ⟨t, vd⟩ := vd
      obtain ⟨t', ve⟩ := ve
      rw [vd] at ve; cases ve; cases q; simp
    case str.str x y =>
      obtain ⟨t, vd⟩ := vd
      obtain ⟨t', ve⟩ := ve
      rw [vd] at ve
      injection ve with e1 _
      injection e1 with e1
      have : x = y := by simpa using congrArg Array.toList e1
      subst this
      cases q; simp
    case tup.tup ds es =>
      obtain ⟨a, its, z, t, qs⟩ := vd
      obtain ⟨a', its', z', t', qs'⟩ := ve
      rw [z] at z'; cases z'
      obtain ⟨o, ho, hc, k, hd⟩ := t
      obtain ⟨o', ho', hc', k', hd'⟩ := t'
      rw [ho] at ho'; cases ho'
      rw [hd] at hd'
      injection hd' with hd' _
      have e0 : its = its' := by simpa using congrArg Array.toList hd'
      subst e0
      obtain ⟨h1, h2⟩ := eqL_all q
      have hl : ds.length = es.length := by rw [← qs.length, ← qs'.length]
      rw [h1, hl]
      simp only [beq_self_eq_true, Bool.and_true, Nat.min_self, List.all_eq_true, List.mem_range]
      intro j hj
      have e1 : ds[j]? = some ds[j] := List.getElem?_eq_getElem (by omega)
      have e2 : es[j]? = some es[j] := List.getElem?_eq_getElem hj
      have e3 : its[j]? = some (its[j]'(by rw [qs'.length]; exact hj)) := List.getElem?_eq_getElem _
      exact ih _ _ _ _ (qs.get e1 e3) (qs'.get e2 e3) (h2 j _ _ e1 e2)
    case tup.lst ds es =>
      obtain ⟨a, its, z, t, qs⟩ := vd
      obtain ⟨a', its', z', t', qs'⟩ := ve
      rw [z] at z'; cases z'
      exact (not_both t' t).elim
    case lst.tup ds es =>
      obtain ⟨a, its, z, t, qs⟩ := vd
      obtain ⟨a', its', z', t', qs'⟩ := ve
      rw [z] at z'; cases z'
      exact (not_both t t').elim
    case lst.lst ds es =>
      obtain ⟨a, its, z, t, qs⟩ := vd
      obtain ⟨a', its', z', t', qs'⟩ := ve
      rw [z] at z'; cases z'
      obtain ⟨o, ho, hc, k, hd⟩ := t
      obtain ⟨o', ho', hc', k', hd'⟩ := t'
      rw [ho] at ho'; cases ho'
      rw [hd] at hd'
      injection hd' with hd' _
      have e0 : its = its' := by simpa using congrArg Array.toList hd'
      subst e0
      have hl : ds.length = es.length := by rw [← qs.length, ← qs'.length]
      rw [if_pos hl] at q
      obtain ⟨h1, h2⟩ := eqL_all q
      rw [h1, hl]
      simp only [beq_self_eq_true, Bool.and_true, Nat.min_self, List.all_eq_true, List.mem_range]
      intro j hj
      have e1 : ds[j]? = some ds[j] := List.getElem?_eq_getElem (by omega)
      have e2 : es[j]? = some es[j] := List.getElem?_eq_getElem hj
      have e3 : its[j]? = some (its[j]'(by rw [qs'.length]; exact hj)) := List.getElem?_eq_getElem _
      exact ih _ _ _ _ (qs.get e1 e3) (qs'.get e2 e3) (h2 j _ _ e1 e2)

theorem eqAt_of {s : Shared} : ∀ (n : Nat) (d e : D) (b : Bool) (u v : Value), Vd s.heap d u → Vd s.heap e v → eqDn n d e = some b → ∀ A : Around, A.units + n < cLine → SeqAt.RcAt A s u v b ∧ SeqAt.EqAt A s u v b := by
  intro n
  induction n with
  | zero => intro d e b u v _ _ q; cases d <;> cases e <;> cases q
  | succ n ih =>
    intro d e b u v vd ve q A hu
    have hu0 : A.units < cLine := by omega
    cases d <;> cases e <;> simp only [eqDn] at q
    all_goals first
      | (cases q; done)
      | skip
    all_goals simp only [Vd] at vd ve
    case non.non => subst vd; subst ve; cases q; exact ⟨SeqAt.RcAt.none_none, SeqAt.EqAt.same _⟩
    case non.bl => subst vd; subst ve; cases q; exact ⟨SeqAt.RcAt.none_bool _, SeqAt.EqAt.none_bool _⟩
    case non.int => subst vd; obtain ⟨t, rfl⟩ := ve; cases q; exact ⟨SeqAt.RcAt.none_int _ _, SeqAt.EqAt.none_int _ _⟩
    case non.str => subst vd; obtain ⟨t, rfl⟩ := ve; cases q; exact ⟨SeqAt.RcAt.none_str _ _, SeqAt.EqAt.none_str _ _⟩
    case non.tup => subst vd; obtain ⟨a, its, rfl, t, _⟩ := ve; cases q; exact ⟨SeqAt.RcAt.none_tuple t hu0, SeqAt.EqAt.none_tuple t hu0⟩
    case non.lst => subst vd; obtain ⟨a, its, rfl, t, _⟩ := ve; cases q; exact ⟨SeqAt.RcAt.none_list t hu0, SeqAt.EqAt.none_list t hu0⟩
    case bl.non => subst vd; subst ve; cases q; exact ⟨SeqAt.RcAt.bool_none _, SeqAt.EqAt.bool_none _⟩
    case bl.bl => subst vd; subst ve; cases q; exact ⟨SeqAt.RcAt.bool_bool _ _, SeqAt.EqAt.bool_bool _ _⟩
    case bl.int => subst vd; obtain ⟨t, rfl⟩ := ve; cases q; exact ⟨SeqAt.RcAt.bool_int _ _ _, SeqAt.EqAt.bool_int _ _ _⟩
    case bl.str => subst vd; obtain ⟨t, rfl⟩ := ve; cases q; exact ⟨SeqAt.RcAt.bool_str _ _ _, SeqAt.EqAt.bool_str _ _ _⟩
    case bl.tup => subst vd; obtain ⟨a, its, rfl, t, _⟩ := ve; cases q; exact ⟨SeqAt.RcAt.bool_tuple _ t hu0, SeqAt.EqAt.bool_tuple _ t hu0⟩
    case bl.lst => subst vd; obtain ⟨a, its, rfl, t, _⟩ := ve; cases q; exact ⟨SeqAt.RcAt.bool_list _ t hu0, SeqAt.EqAt.bool_list _ t hu0⟩
    case int.non => obtain ⟨t, rfl⟩ := vd; subst ve; cases q; exact ⟨SeqAt.RcAt.int_none _ _, SeqAt.EqAt.int_none _ _⟩
    case int.bl => obtain ⟨t, rfl⟩ := vd; subst ve; cases q; exact ⟨SeqAt.RcAt.int_bool _ _ _, SeqAt.EqAt.int_bool _ _ _⟩
    case int.int => obtain ⟨t, rfl⟩ := vd; obtain ⟨t', rfl⟩ := ve; cases q; exact ⟨SeqAt.RcAt.int_int _ _ _ _, SeqAt.EqAt.int_int _ _ _ _⟩
    case int.str => obtain ⟨t, rfl⟩ := vd; obtain ⟨t', rfl⟩ := ve; cases q; exact ⟨SeqAt.RcAt.int_str _ _ _ _, SeqAt.EqAt.int_str _ _ _ _⟩
    case int.tup => obtain ⟨t, rfl⟩ := vd; obtain ⟨a, its, rfl, t, _⟩ := ve; cases q; exact ⟨SeqAt.RcAt.int_tuple _ _ t hu0, SeqAt.EqAt.int_tuple _ _ t hu0⟩
    case int.lst => obtain ⟨t, rfl⟩ := vd; obtain ⟨a, its, rfl, t, _⟩ := ve; cases q; exact ⟨SeqAt.RcAt.int_list _ _ t hu0, SeqAt.EqAt.int_list _ _ t hu0⟩
    case str.non => obtain ⟨t, rfl⟩ := vd; subst ve; cases q; exact ⟨SeqAt.RcAt.str_none _ _, SeqAt.EqAt.str_none _ _⟩
    case str.bl => obtain ⟨t, rfl⟩ := vd; subst ve; cases q; exact ⟨SeqAt.RcAt.str_bool _ _ _, SeqAt.EqAt.str_bool _ _ _⟩
    case str.int => obtain ⟨t, rfl⟩ := vd; obtain ⟨t', rfl⟩ := ve; cases q; exact ⟨SeqAt.RcAt.str_int _ _ _ _, SeqAt.EqAt.str_int _ _ _ _⟩
    case str.str x y =>
      obtain ⟨t, rfl⟩ := vd; obtain ⟨t', rfl⟩ := ve; cases q
      have e1 : (x == y) = ((⟨x.toArray⟩ : Str) == ⟨y.toArray⟩) := by
        by_cases h : x = y
        · subst h; simp
        · have h' : (⟨x.toArray⟩ : Str) ≠ ⟨y.toArray⟩ := fun z => h (by injection z with z; simpa using congrArg Array.toList z)
          rw [beq_eq_false_iff_ne.mpr h, beq_eq_false_iff_ne.mpr h']
      rw [e1]
      exact ⟨SeqAt.RcAt.str_str _ _ _ _, SeqAt.EqAt.str_str _ _ _ _⟩
    case str.tup => obtain ⟨t, rfl⟩ := vd; obtain ⟨a, its, rfl, t, _⟩ := ve; cases q; exact ⟨SeqAt.RcAt.str_tuple _ _ t hu0, SeqAt.EqAt.str_tuple _ _ t hu0⟩
    case str.lst => obtain ⟨t, rfl⟩ := vd; obtain ⟨a, its, rfl, t, _⟩ := ve; cases q; exact ⟨SeqAt.RcAt.str_list _ _ t hu0, SeqAt.EqAt.str_list _ _ t hu0⟩
    case tup.non => obtain ⟨a, its, rfl, t, _⟩ := vd; subst ve; cases q; exact ⟨SeqAt.RcAt.tuple_none t hu0, SeqAt.EqAt.tuple_none t hu0⟩
    case tup.bl => obtain ⟨a, its, rfl, t, _⟩ := vd; subst ve; cases q; exact ⟨SeqAt.RcAt.tuple_bool _ t hu0, SeqAt.EqAt.tuple_bool _ t hu0⟩
    case tup.int => obtain ⟨a, its, rfl, t, _⟩ := vd; obtain ⟨t', rfl⟩ := ve; cases q; exact ⟨SeqAt.RcAt.tuple_int _ _ t hu0, SeqAt.EqAt.tuple_int _ _ t hu0⟩
    case tup.str => obtain ⟨a, its, rfl, t, _⟩ := vd; obtain ⟨t', rfl⟩ := ve; cases q; exact ⟨SeqAt.RcAt.tuple_str _ _ t hu0, SeqAt.EqAt.tuple_str _ _ t hu0⟩
    case tup.tup ds es =>
      obtain ⟨a, its, rfl, t, qs⟩ := vd
      obtain ⟨a', its', rfl, t', qs'⟩ := ve
      obtain ⟨h1, h2⟩ := eqL_all q
      have rc : SeqAt.RcAt A s (.ref a) (.ref a') b := by
        have := SeqAt.RcAt.tuples (e := eqJ (eqDn n) ds es) (show s.heap.IsTuple a its.toArray from t) (show s.heap.IsTuple a' its'.toArray from t') hu0 fun j g1 g2 => by
          have g1' : j < its.length := by simpa using g1
          have g2' : j < its'.length := by simpa using g2
          have l1 : ds[j]? = some (ds[j]'(by rw [← qs.length]; exact g1')) := List.getElem?_eq_getElem _
          have l2 : es[j]? = some (es[j]'(by rw [← qs'.length]; exact g2')) := List.getElem?_eq_getElem _
          have r1 : its[j]? = some (its[j]'g1') := List.getElem?_eq_getElem _
          have r2 : its'[j]? = some (its'[j]'g2') := List.getElem?_eq_getElem _
          have := (ih _ _ _ _ _ (qs.get l1 r1) (qs'.get l2 r2) (h2 j _ _ l1 l2) A.in1 (by show A.units + 1 + n < cLine; omega)).2
          simpa using this
        simp only [List.size_toArray] at this
        rw [qs.length, qs'.length, ← h1] at this
        exact this
      refine ⟨rc, ?_⟩
      by_cases hl : a = a'
      · subst hl
        have hb : b = true := eq_same (n + 1) (.tup ds) (.tup es) b (.ref a) (by simp only [Vd]; exact ⟨a, its, rfl, t, qs⟩) (by simp only [Vd]; exact ⟨a, its', rfl, t', qs'⟩) (by simp only [eqDn]; exact q)
        subst hb
        exact SeqAt.EqAt.same _
      · exact SeqAt.EqAt.of_refs hl rc
    case tup.lst => obtain ⟨a, its, rfl, t, _⟩ := vd; obtain ⟨a', its', rfl, t', _⟩ := ve; cases q; exact ⟨SeqAt.RcAt.tuple_list t t' hu0, SeqAt.EqAt.tuple_list t t' hu0⟩
    case lst.non => obtain ⟨a, its, rfl, t, _⟩ := vd; subst ve; cases q; exact ⟨SeqAt.RcAt.list_none t hu0, SeqAt.EqAt.list_none t hu0⟩
    case lst.bl => obtain ⟨a, its, rfl, t, _⟩ := vd; subst ve; cases q; exact ⟨SeqAt.RcAt.list_bool _ t hu0, SeqAt.EqAt.list_bool _ t hu0⟩
    case lst.int => obtain ⟨a, its, rfl, t, _⟩ := vd; obtain ⟨t', rfl⟩ := ve; cases q; exact ⟨SeqAt.RcAt.list_int _ _ t hu0, SeqAt.EqAt.list_int _ _ t hu0⟩
    case lst.str => obtain ⟨a, its, rfl, t, _⟩ := vd; obtain ⟨t', rfl⟩ := ve; cases q; exact ⟨SeqAt.RcAt.list_str _ _ t hu0, SeqAt.EqAt.list_str _ _ t hu0⟩
    case lst.tup => obtain ⟨a, its, rfl, t, _⟩ := vd; obtain ⟨a', its', rfl, t', _⟩ := ve; cases q; exact ⟨SeqAt.RcAt.list_tuple t t' hu0, SeqAt.EqAt.list_tuple t t' hu0⟩
    case lst.lst ds es =>
      obtain ⟨a, its, rfl, t, qs⟩ := vd
      obtain ⟨a', its', rfl, t', qs'⟩ := ve
      by_cases hlen : ds.length = es.length
      · rw [if_pos hlen] at q
        obtain ⟨h1, h2⟩ := eqL_all q
        have rc : SeqAt.RcAt A s (.ref a) (.ref a') b := by
          have := SeqAt.RcAt.lists (e := eqJ (eqDn n) ds es) t t' (by simp [qs.length, qs'.length, hlen]) hu0 fun j g1 g2 => by
            have g1' : j < its.length := by simpa using g1
            have g2' : j < its'.length := by simpa using g2
            have l1 : ds[j]? = some (ds[j]'(by rw [← qs.length]; exact g1')) := List.getElem?_eq_getElem _
            have l2 : es[j]? = some (es[j]'(by rw [← qs'.length]; exact g2')) := List.getElem?_eq_getElem _
            have r1 : its[j]? = some (its[j]'g1') := List.getElem?_eq_getElem _
            have r2 : its'[j]? = some (its'[j]'g2') := List.getElem?_eq_getElem _
            have := (ih _ _ _ _ _ (qs.get l1 r1) (qs'.get l2 r2) (h2 j _ _ l1 l2) A.in1 (by show A.units + 1 + n < cLine; omega)).2
            simpa using this
          have hb : b = (List.range its.toArray.size).all (eqJ (eqDn n) ds es) := by
            rw [h1, ← hlen]; simp [qs.length]
          rw [hb]; exact this
        refine ⟨rc, ?_⟩
        by_cases hl : a = a'
        · subst hl
          have hb : b = true := eq_same (n + 1) (.lst ds) (.lst es) b (.ref a) (by simp only [Vd]; exact ⟨a, its, rfl, t, qs⟩) (by simp only [Vd]; exact ⟨a, its', rfl, t', qs'⟩) (by simp only [eqDn]; rw [if_pos hlen]; exact q)
          subst hb
          exact SeqAt.EqAt.same _
        · exact SeqAt.EqAt.of_refs hl rc
      · rw [if_neg hlen] at q
        cases q
        have hs : (its.toArray.size != its'.toArray.size) = true := by
          simp [qs.length, qs'.length, hlen]
        have rc := SeqAt.RcAt.lists_lengths t t' hs hu0
        refine ⟨rc, SeqAt.EqAt.of_refs (fun z => ?_) rc⟩
        subst z
        obtain ⟨o, ho, hc, k, hd⟩ := t
        obtain ⟨o', ho', hc', k', hd'⟩ := t'
        rw [ho] at ho'; cases ho'
        rw [hd] at hd'
        injection hd' with hd' _
        rw [hd'] at hs
        simp at hs
end Mi
set_option Elab.async false
set_option linter.all false
set_option maxRecDepth 100000
set_option maxHeartbeats 2000000
namespace Mi
open PySem PySem.Spec PyProof.Rows L2

/-! ### order of data -/
def ltL (eq lt : D → D → Option Bool) : List D → List D → Option Bool
  | [], [] => some false
  | [], _ :: _ => some true
  | _ :: _, [] => some false
  | x :: xs, y :: ys => match eq x y, ltL eq lt xs ys with
    | some true, some r => some r
    | some false, some _ => lt x y
    | _, _ => none
def ltDn : Nat → D → D → Option Bool
  | 0, _, _ => none
  | _ + 1, .int i, .int j => some (decide (i < j))
  | _ + 1, .str x, .str y => some (decide (x < y))
  | n + 1, .tup xs, .tup ys => ltL (eqDn n) (ltDn n) xs ys
  | _ + 1, _, _ => none
theorem lexAt_shift {e r : Nat → Bool} {z : Bool} : ∀ {k i : Nat}, Ob.lexAt e r z (i + 1) k = Ob.lexAt (fun j => e (j + 1)) (fun j => r (j + 1)) z i k
  | 0, i => rfl
  | k + 1, i => by
    rw [Ob.lexAt_succ, Ob.lexAt_succ, lexAt_shift]
theorem ltL_all {eq lt : D → D → Option Bool} : ∀ {xs ys : List D} {b : Bool}, ltL eq lt xs ys = some b →
    b = Ob.lexAt (eqJ eq xs ys) (eqJ lt xs ys) (decide (xs.length < ys.length)) 0 (min xs.length ys.length) ∧
      ∀ (j : Nat) x y, xs[j]? = some x → ys[j]? = some y → eq x y = some (eqJ eq xs ys j) ∧ (eqJ eq xs ys j = false → lt x y = some (eqJ lt xs ys j))
  | [], [], b, e => by cases e; exact ⟨by simp [Ob.lexAt], fun j x y h => by simp at h⟩
  | [], _ :: _, b, e => by cases e; exact ⟨by simp [Ob.lexAt], fun j x y h => by simp at h⟩
  | _ :: _, [], b, e => by cases e; exact ⟨by simp [Ob.lexAt], fun j x y _ h => by simp at h⟩
  | x :: xs, y :: ys, b, e => by
    have hj : ∀ f j, eqJ f (x :: xs) (y :: ys) (j + 1) = eqJ f xs ys j := fun f j => by simp [eqJ]
    have hm : min (x :: xs).length (y :: ys).length = min xs.length ys.length + 1 := by simp only [List.length_cons]; omega
    have hd : decide ((x :: xs).length < (y :: ys).length) = decide (xs.length < ys.length) := by
      simp only [List.length_cons, Nat.add_lt_add_iff_right]
    simp only [ltL] at e
    split at e
    · rename_i r e1 e2
      cases e
      obtain ⟨h1, h2⟩ := ltL_all e2
      have h0 : eqJ eq (x :: xs) (y :: ys) 0 = true := by simp [eqJ, e1]
      refine ⟨?_, fun j a c ha hc => ?_⟩
      · rw [hm, Ob.lexAt_succ, if_pos h0, lexAt_shift, h1, hd]
        congr 1
      · cases j with
        | zero =>
          simp at ha hc
          subst ha; subst hc
          exact ⟨by rw [e1, h0], fun z => by rw [h0] at z; cases z⟩
        | succ j => exact h2 j a c (by simpa using ha) (by simpa using hc)
    · rename_i r e1 e2
      obtain ⟨h1, h2⟩ := ltL_all e2
      have h0 : eqJ eq (x :: xs) (y :: ys) 0 = false := by simp [eqJ, e1]
      have h3 : eqJ lt (x :: xs) (y :: ys) 0 = b := by simp [eqJ, e]
      refine ⟨?_, fun j a c ha hc => ?_⟩
      · rw [hm, Ob.lexAt_succ, if_neg (by rw [h0]; simp), h3]
      · cases j with
        | zero =>
          simp at ha hc
          subst ha; subst hc
          exact ⟨by rw [e1, h0], fun _ => by rw [h3, e]⟩
        | succ j => exact h2 j a c (by simpa using ha) (by simpa using hc)
    · cases e
theorem ltAt_of {s : Shared} : ∀ (n : Nat) (d e : D) (b : Bool) (u v : Value), Vd s.heap d u → Vd s.heap e v → ltDn n d e = some b → ∀ A : Around, A.units + n < cLine → Ob.RcOp .Lt A s u v b := by
  intro n
  induction n with
  | zero => intro d e b u v _ _ q; cases d <;> cases e <;> cases q
  | succ n ih =>
    intro d e b u v vd ve q A hu
    have hu0 : A.units < cLine := by omega
    cases d <;> cases e <;> simp only [ltDn] at q
    all_goals first
      | (cases q; done)
      | skip
    all_goals simp only [Vd] at vd ve
    case int.int => obtain ⟨t, rfl⟩ := vd; obtain ⟨t', rfl⟩ := ve; cases q; exact Ob.RcOp.lt_int _ _ _ _
    case str.str x y =>
      obtain ⟨t, rfl⟩ := vd; obtain ⟨t', rfl⟩ := ve; cases q
      exact fun prog w E Q h => PySem.P.lt_str (by simpa using h)
    case tup.tup ds es =>
      obtain ⟨a, its, rfl, t, qs⟩ := vd
      obtain ⟨a', its', rfl, t', qs'⟩ := ve
      obtain ⟨h1, h2⟩ := ltL_all q
      have key : ∀ j (g1 : j < its.length) (g2 : j < its'.length), ∃ x y, ds[j]? = some x ∧ es[j]? = some y ∧ Vd s.heap x its[j] ∧ Vd s.heap y its'[j] := fun j g1 g2 => by
        have l1 : ds[j]? = some (ds[j]'(by rw [← qs.length]; exact g1)) := List.getElem?_eq_getElem _
        have l2 : es[j]? = some (es[j]'(by rw [← qs'.length]; exact g2)) := List.getElem?_eq_getElem _
        exact ⟨_, _, l1, l2, qs.get l1 (List.getElem?_eq_getElem g1), qs'.get l2 (List.getElem?_eq_getElem g2)⟩
      have := Ob.RcOp.tuples_lt (e := eqJ (eqDn n) ds es) (r := eqJ (ltDn n) ds es) (show s.heap.IsTuple a its.toArray from t) (show s.heap.IsTuple a' its'.toArray from t') hu0 (fun j g1 g2 => by
          obtain ⟨x, y, l1, l2, v1, v2⟩ := key j (by simpa using g1) (by simpa using g2)
          have := (eqAt_of n _ _ _ _ _ v1 v2 (h2 j _ _ l1 l2).1 A.in1 (by show A.units + 1 + n < cLine; omega)).2
          simpa using this) fun j g1 g2 hf => by
          obtain ⟨x, y, l1, l2, v1, v2⟩ := key j (by simpa using g1) (by simpa using g2)
          have := ih _ _ _ _ _ v1 v2 ((h2 j _ _ l1 l2).2 hf) A.in1 (by show A.units + 1 + n < cLine; omega)
          simpa using this
      simp only [List.size_toArray] at this
      rw [qs.length, qs'.length, ← h1] at this
      exact this

/-! ### one value, two data -/
theorem vd_kind {h : Heap} {d d' : D} {u : Value} (q : Vd h d u) (q' : Vd h d' u) (p : ∀ n x b, eqDn n d x = some b → True) : True := trivial
def opq : D → Bool
  | .dic _ => true
  | .pot => true
  | .scr _ => true
  | .rep _ => true
  | _ => false
theorem eq_opq {n : Nat} {d x : D} {b : Bool} (e : eqDn n d x = some b) : opq d = false := by
  cases n with
  | zero => cases e
  | succ n => cases d <;> cases x <;> first | rfl | (simp [eqDn] at e; done)
inductive Like (h : Heap) : D → D → Prop
  | same (d : D) : Like h d d
  | tup {ds es : List D} {its : List Value} : Vds h ds its → Vds h es its → Like h (.tup ds) (.tup es)
  | lst {ds es : List D} {its : List Value} : Vds h ds its → Vds h es its → Like h (.lst ds) (.lst es)
theorem Vd.like {h : Heap} {d d' : D} {u : Value} (q : Vd h d u) (q' : Vd h d' u) (p : opq d = false) (p' : opq d' = false) : Like h d d' := by
  cases d <;> cases d' <;> first | (simp [opq] at p; done) | (simp [opq] at p'; done) | skip
  all_goals simp only [Vd] at q q'
  all_goals first
    | exact .same _
    | (subst q; cases q'; done)
    | (subst q; obtain ⟨_, _, z, _⟩ := q'; cases z; done)
    | (subst q; obtain ⟨_, z⟩ := q'; cases z; done)
    | (obtain ⟨_, q⟩ := q; subst q; cases q'; done)
    | (obtain ⟨_, q⟩ := q; subst q; obtain ⟨_, _, z, _⟩ := q'; cases z; done)
    | (obtain ⟨_, q⟩ := q; subst q; obtain ⟨_, z⟩ := q'; cases z; done)
    | (obtain ⟨_, _, q, _⟩ := q; subst q; cases q'; done)
    | (obtain ⟨_, _, q, _⟩ := q; subst q; obtain ⟨_, z⟩ := q'; cases z; done)
    | skip
  case bl.bl => subst q; cases q'; exact .same _
  case int.int => obtain ⟨t, q⟩ := q; obtain ⟨t', q'⟩ := q'; rw [q] at q'; cases q'; exact .same _
  case str.str x y =>
    obtain ⟨t, q⟩ := q
    obtain ⟨t', q'⟩ := q'
    rw [q] at q'
    injection q' with e1 _
    injection e1 with e1
    have : x = y := by simpa using congrArg Array.toList e1
    rw [this]; exact .same _
  case tup.tup ds es =>
    obtain ⟨a, its, z, t, qs⟩ := q
    obtain ⟨a', its', z', t', qs'⟩ := q'
    rw [z] at z'; cases z'
    obtain ⟨o, ho, hc, k, hd⟩ := t
    obtain ⟨o', ho', hc', k', hd'⟩ := t'
    rw [ho] at ho'; cases ho'
    rw [hd] at hd'
    injection hd' with hd' _
    have e0 : its = its' := by simpa using congrArg Array.toList hd'
    subst e0
    exact .tup qs qs'
  case tup.lst =>
    obtain ⟨a, its, z, t, qs⟩ := q
    obtain ⟨a', its', z', t', qs'⟩ := q'
    rw [z] at z'; cases z'
    exact (not_both t' t).elim
  case lst.tup =>
    obtain ⟨a, its, z, t, qs⟩ := q
    obtain ⟨a', its', z', t', qs'⟩ := q'
    rw [z] at z'; cases z'
    exact (not_both t t').elim
  case lst.lst ds es =>
    obtain ⟨a, its, z, t, qs⟩ := q
    obtain ⟨a', its', z', t', qs'⟩ := q'
    rw [z] at z'; cases z'
    obtain ⟨o, ho, hc, k, hd⟩ := t
    obtain ⟨o', ho', hc', k', hd'⟩ := t'
    rw [ho] at ho'; cases ho'
    rw [hd] at hd'
    injection hd' with hd' _
    have e0 : its = its' := by simpa using congrArg Array.toList hd'
    subst e0
    exact .lst qs qs'
theorem eqL_det {h : Heap} {n : Nat} (ih : ∀ d d' x b b' u, Vd h d u → Vd h d' u → eqDn n d x = some b → eqDn n d' x = some b' → b = b') : ∀ {ds es xs : List D} {its : List Value} {b b' : Bool}, Vds h ds its → Vds h es its →
    eqL (eqDn n) ds xs = some b → eqL (eqDn n) es xs = some b' → b = b'
  | [], [], xs, its, b, b', _, _, e, e' => by rw [e] at e'; cases e'; rfl
  | [], e :: es, xs, its, b, b', q, q', _, _ => by
    have := q.length; have := q'.length; simp_all
  | d :: ds, [], xs, its, b, b', q, q', _, _ => by
    have := q.length; have := q'.length; simp_all
  | d :: ds, e :: es, [], its, b, b', _, _, h1, h2 => by cases h1; cases h2; rfl
  | d :: ds, e :: es, x :: xs, its, b, b', q, q', h1, h2 => by
    simp only [Vds] at q q'
    obtain ⟨u, ur, rfl, q1, qr⟩ := q
    obtain ⟨u', ur', z, q1', qr'⟩ := q'
    cases z
    simp only [eqL] at h1 h2
    split at h1
    · rename_i c r e1 e2
      split at h2
      · rename_i c' r' e1' e2'
        cases h1; cases h2
        rw [ih _ _ _ _ _ _ q1 q1' e1 e1', eqL_det ih qr qr' e2 e2']
      · cases h2
    · cases h1
theorem eq_det {h : Heap} : ∀ (n : Nat) (d d' x : D) (b b' : Bool) (u : Value), Vd h d u → Vd h d' u → eqDn n d x = some b → eqDn n d' x = some b' → b = b' := by
  intro n
  induction n with
  | zero => intro d d' x b b' u _ _ q; cases d <;> cases x <;> cases q
  | succ n ih =>
    intro d d' x b b' u q q' e e'
    cases q.like q' (eq_opq e) (eq_opq e') with
    | same => rw [e] at e'; cases e'; rfl
    | tup qs qs' =>
      cases x <;> simp only [eqDn] at e e' <;> first
        | (cases e; cases e'; rfl)
        | (cases e; done)
        | exact eqL_det ih qs qs' e e'
    | lst qs qs' =>
      have hl := qs.length.symm.trans qs'.length
      cases x with
      | lst xs =>
        simp only [eqDn] at e e'
        rw [← hl] at e'
        split at e
        · rename_i g
          rw [if_pos g] at e'
          exact eqL_det ih qs qs' e e'
        · rename_i g
          rw [if_neg g] at e'
          cases e; cases e'; rfl
      | _ => simp only [eqDn] at e e' <;> first | (cases e; cases e'; rfl) | (cases e; done)
/-! ### != -/
theorem neAt_of {s : Shared} : ∀ (n : Nat) (d e : D) (b : Bool) (u v : Value), Vd s.heap d u → Vd s.heap e v → eqDn n d e = some b → ∀ A : Around, A.units + n < cLine → SeqAt.RcNeAt A s u v (!b) := by
  intro n
  cases n with
  | zero => intro d e b u v _ _ q; cases d <;> cases e <;> cases q
  | succ n =>
    intro d e b u v vd ve q A hu
    have hu0 : A.units < cLine := by omega
    cases d <;> cases e <;> simp only [eqDn] at q
    all_goals first
      | (cases q; done)
      | skip
    all_goals simp only [Vd] at vd ve
    case non.non => subst vd; subst ve; cases q; exact SeqAt.RcNeAt.none_none
    case non.bl => subst vd; subst ve; cases q; exact SeqAt.RcNeAt.none_bool _
    case non.int => subst vd; obtain ⟨t, rfl⟩ := ve; cases q; exact SeqAt.RcNeAt.none_int _ _
    case non.str => subst vd; obtain ⟨t, rfl⟩ := ve; cases q; exact SeqAt.RcNeAt.none_str _ _
    case non.tup => subst vd; obtain ⟨a, its, rfl, t, _⟩ := ve; cases q; exact SeqAt.RcNeAt.none_tuple t hu0
    case non.lst => subst vd; obtain ⟨a, its, rfl, t, _⟩ := ve; cases q; exact SeqAt.RcNeAt.none_list t hu0
    case bl.non => subst vd; subst ve; cases q; exact SeqAt.RcNeAt.bool_none _
    case bl.bl => subst vd; subst ve; cases q; exact SeqAt.RcNeAt.bool_bool _ _
    case bl.int => subst vd; obtain ⟨t, rfl⟩ := ve; cases q; exact SeqAt.RcNeAt.bool_int _ _ _
    case bl.str => subst vd; obtain ⟨t, rfl⟩ := ve; cases q; exact SeqAt.RcNeAt.bool_str _ _ _
    case bl.tup => subst vd; obtain ⟨a, its, rfl, t, _⟩ := ve; cases q; exact SeqAt.RcNeAt.bool_tuple _ t hu0
    case bl.lst => subst vd; obtain ⟨a, its, rfl, t, _⟩ := ve; cases q; exact SeqAt.RcNeAt.bool_list _ t hu0
    case int.non => obtain ⟨t, rfl⟩ := vd; subst ve; cases q; exact SeqAt.RcNeAt.int_none _ _
    case int.bl => obtain ⟨t, rfl⟩ := vd; subst ve; cases q; exact SeqAt.RcNeAt.int_bool _ _ _
    case int.int => obtain ⟨t, rfl⟩ := vd; obtain ⟨t', rfl⟩ := ve; cases q; exact SeqAt.RcNeAt.int_int _ _ _ _
    case int.str => obtain ⟨t, rfl⟩ := vd; obtain ⟨t', rfl⟩ := ve; cases q; exact SeqAt.RcNeAt.int_str _ _ _ _
    case int.tup => obtain ⟨t, rfl⟩ := vd; obtain ⟨a, its, rfl, t, _⟩ := ve; cases q; exact SeqAt.RcNeAt.int_tuple _ _ t hu0
    case int.lst => obtain ⟨t, rfl⟩ := vd; obtain ⟨a, its, rfl, t, _⟩ := ve; cases q; exact SeqAt.RcNeAt.int_list _ _ t hu0
    case str.non => obtain ⟨t, rfl⟩ := vd; subst ve; cases q; exact SeqAt.RcNeAt.str_none _ _
    case str.bl => obtain ⟨t, rfl⟩ := vd; subst ve; cases q; exact SeqAt.RcNeAt.str_bool _ _ _
    case str.int => obtain ⟨t, rfl⟩ := vd; obtain ⟨t', rfl⟩ := ve; cases q; exact SeqAt.RcNeAt.str_int _ _ _ _
    case str.str x y =>
      obtain ⟨t, rfl⟩ := vd; obtain ⟨t', rfl⟩ := ve; cases q
      have e1 : (x == y) = ((⟨x.toArray⟩ : Str) == ⟨y.toArray⟩) := by
        by_cases h : x = y
        · subst h; simp
        · have h' : (⟨x.toArray⟩ : Str) ≠ ⟨y.toArray⟩ := fun z => h (by injection z with z; simpa using congrArg Array.toList z)
          rw [beq_eq_false_iff_ne.mpr h, beq_eq_false_iff_ne.mpr h']
      rw [e1]
      exact SeqAt.RcNeAt.str_str _ _ _ _
    case str.tup => obtain ⟨t, rfl⟩ := vd; obtain ⟨a, its, rfl, t, _⟩ := ve; cases q; exact SeqAt.RcNeAt.str_tuple _ _ t hu0
    case str.lst => obtain ⟨t, rfl⟩ := vd; obtain ⟨a, its, rfl, t, _⟩ := ve; cases q; exact SeqAt.RcNeAt.str_list _ _ t hu0
    case tup.non => obtain ⟨a, its, rfl, t, _⟩ := vd; subst ve; cases q; exact SeqAt.RcNeAt.tuple_none t hu0
    case tup.bl => obtain ⟨a, its, rfl, t, _⟩ := vd; subst ve; cases q; exact SeqAt.RcNeAt.tuple_bool _ t hu0
    case tup.int => obtain ⟨a, its, rfl, t, _⟩ := vd; obtain ⟨t', rfl⟩ := ve; cases q; exact SeqAt.RcNeAt.tuple_int _ _ t hu0
    case tup.str => obtain ⟨a, its, rfl, t, _⟩ := vd; obtain ⟨t', rfl⟩ := ve; cases q; exact SeqAt.RcNeAt.tuple_str _ _ t hu0
    case tup.tup ds es =>
      obtain ⟨a, its, rfl, t, qs⟩ := vd
      obtain ⟨a', its', rfl, t', qs'⟩ := ve
      obtain ⟨h1, h2⟩ := eqL_all q
      have rc : SeqAt.RcNeAt A s (.ref a) (.ref a') (!b) := by
        have := SeqAt.RcNeAt.tuples (e := eqJ (eqDn n) ds es) (show s.heap.IsTuple a its.toArray from t) (show s.heap.IsTuple a' its'.toArray from t') hu0 fun j g1 g2 => by
          have g1' : j < its.length := by simpa using g1
          have g2' : j < its'.length := by simpa using g2
          have l1 : ds[j]? = some (ds[j]'(by rw [← qs.length]; exact g1')) := List.getElem?_eq_getElem _
          have l2 : es[j]? = some (es[j]'(by rw [← qs'.length]; exact g2')) := List.getElem?_eq_getElem _
          have r1 : its[j]? = some (its[j]'g1') := List.getElem?_eq_getElem _
          have r2 : its'[j]? = some (its'[j]'g2') := List.getElem?_eq_getElem _
          have := (eqAt_of n _ _ _ _ _ (qs.get l1 r1) (qs'.get l2 r2) (h2 j _ _ l1 l2) A.in1 (by show A.units + 1 + n < cLine; omega)).2
          simpa using this
        simp only [List.size_toArray] at this
        rw [qs.length, qs'.length, ← h1] at this
        exact this
      exact rc
    case tup.lst => obtain ⟨a, its, rfl, t, _⟩ := vd; obtain ⟨a', its', rfl, t', _⟩ := ve; cases q; exact SeqAt.RcNeAt.tuple_list t t' hu0
    case lst.non => obtain ⟨a, its, rfl, t, _⟩ := vd; subst ve; cases q; exact SeqAt.RcNeAt.list_none t hu0
    case lst.bl => obtain ⟨a, its, rfl, t, _⟩ := vd; subst ve; cases q; exact SeqAt.RcNeAt.list_bool _ t hu0
    case lst.int => obtain ⟨a, its, rfl, t, _⟩ := vd; obtain ⟨t', rfl⟩ := ve; cases q; exact SeqAt.RcNeAt.list_int _ _ t hu0
    case lst.str => obtain ⟨a, its, rfl, t, _⟩ := vd; obtain ⟨t', rfl⟩ := ve; cases q; exact SeqAt.RcNeAt.list_str _ _ t hu0
    case lst.tup => obtain ⟨a, its, rfl, t, _⟩ := vd; obtain ⟨a', its', rfl, t', _⟩ := ve; cases q; exact SeqAt.RcNeAt.list_tuple t t' hu0
    case lst.lst ds es =>
      obtain ⟨a, its, rfl, t, qs⟩ := vd
      obtain ⟨a', its', rfl, t', qs'⟩ := ve
      by_cases hlen : ds.length = es.length
      · rw [if_pos hlen] at q
        obtain ⟨h1, h2⟩ := eqL_all q
        have rc : SeqAt.RcNeAt A s (.ref a) (.ref a') (!b) := by
          have := SeqAt.RcNeAt.lists (e := eqJ (eqDn n) ds es) t t' (by simp [qs.length, qs'.length, hlen]) hu0 fun j g1 g2 => by
            have g1' : j < its.length := by simpa using g1
            have g2' : j < its'.length := by simpa using g2
            have l1 : ds[j]? = some (ds[j]'(by rw [← qs.length]; exact g1')) := List.getElem?_eq_getElem _
            have l2 : es[j]? = some (es[j]'(by rw [← qs'.length]; exact g2')) := List.getElem?_eq_getElem _
            have r1 : its[j]? = some (its[j]'g1') := List.getElem?_eq_getElem _
            have r2 : its'[j]? = some (its'[j]'g2') := List.getElem?_eq_getElem _
            have := (eqAt_of n _ _ _ _ _ (qs.get l1 r1) (qs'.get l2 r2) (h2 j _ _ l1 l2) A.in1 (by show A.units + 1 + n < cLine; omega)).2
            simpa using this
          have hb : b = (List.range its.toArray.size).all (eqJ (eqDn n) ds es) := by
            rw [h1, ← hlen]; simp [qs.length]
          rw [hb]; exact this
        exact rc
      · rw [if_neg hlen] at q
        cases q
        have hs : (its.toArray.size != its'.toArray.size) = true := by
          simp [qs.length, qs'.length, hlen]
        have rc := SeqAt.RcNeAt.lists_lengths t t' hs hu0
        exact rc
end Mi
set_option Elab.async false
set_option linter.all false
set_option maxRecDepth 100000
set_option maxHeartbeats 2000000
namespace Mi
open PySem PySem.Spec PyProof.Rows L2

/-! ### operations by data -/
def noSl : Hd → Bool
  | .slot _ => false
  | _ => true
def rD (K : PySem.W.Frag) (g : D → D → Option Hd) : R2 := fun x y H Q => ∃ (F P : Addr → Prop) (d1 d2 : D) (h : Hd), RC K F P H d1 x ∧ RC K F P H d2 y ∧ g d1 d2 = some h ∧ ResK K F P H h Q
def rD1 (K : PySem.W.Frag) (g : D → Option Hd) : V → Hp → VK → Prop := fun x H Q => ∃ (F P : Addr → Prop) (d1 : D) (h : Hd), RC K F P H d1 x ∧ g d1 = some h ∧ ResK K F P H h Q
def rDN (K : PySem.W.Frag) (g : List D → Option Hd) : List V → Hp → VK → Prop := fun xs H Q => ∃ (F P : Addr → Prop) (ds : List D) (h : Hd), RCs K F P H ds xs ∧ g ds = some h ∧ ResK K F P H h Q
/-- a result is never a slot -/
def NS2 (g : D → D → Option Hd) : Prop := ∀ d e h, g d e = some h → noSl h = true
def NS1 (g : D → Option Hd) : Prop := ∀ d h, g d = some h → noSl h = true
def NSN (g : List D → Option Hd) : Prop := ∀ d h, g d = some h → noSl h = true
theorem noSl_ne {h : Hd} (e : noSl h = true) : ∀ i, h ≠ .slot i := fun i z => by subst z; cases e
theorem op2_rD {K : PySem.W.Frag} {g : D → D → Option Hd} (n : NS2 g) : Op2 K (rD K g) g := by
  intro F P H d1 d2 v1 v2 h Q r1 r2 e
  exact ⟨noSl_ne (n _ _ _ e), fun q => ⟨F, P, d1, d2, h, r1, r2, e, q⟩⟩
theorem op1_rD {K : PySem.W.Frag} {g : D → Option Hd} (n : NS1 g) : Op1 K (rD1 K g) g := by
  intro F P H d1 v1 h Q r1 e
  exact ⟨noSl_ne (n _ _ e), fun q => ⟨F, P, d1, h, r1, e, q⟩⟩
theorem opN_rD {K : PySem.W.Frag} {g : List D → Option Hd} (n : NSN g) : OpN K (rDN K g) g := by
  intro F P H ds vs h Q r1 e
  exact ⟨noSl_ne (n _ _ e), fun q => ⟨F, P, ds, h, r1, e, q⟩⟩
section
variable {K : PySem.W.Frag} {F P : Addr → Prop} {H : Hp} {v : V}
theorem RC.non (h : RC K F P H .non v) : v = .non := by
  rcases h with h | ⟨_, _, o⟩
  · simpa only [RV] using h
  · exact o.elim
theorem RC.bl {b : Bool} (h : RC K F P H (.bl b) v) : v = .bl b := by
  rcases h with h | ⟨_, _, o⟩
  · simpa only [RV] using h
  · exact o.elim
theorem RC.int {i : Int} (h : RC K F P H (.int i) v) : v = .int i := by
  rcases h with h | ⟨_, _, o⟩
  · simpa only [RV] using h
  · exact o.elim
theorem RC.str {x : List Nat} (h : RC K F P H (.str x) v) : v = .str ⟨x.toArray⟩ := by
  rcases h with h | ⟨_, _, o⟩
  · simpa only [RV] using h
  · exact o.elim
theorem RC.tup {ds : List D} (h : RC K F P H (.tup ds) v) : ∃ a vs, v = .ref a ∧ H a = some (.tup vs) ∧ RVs K F P H ds vs := by
  rcases h with h | ⟨_, _, o⟩
  · simpa only [RV] using h
  · exact o.elim
theorem RC.lst {ds : List D} (h : RC K F P H (.lst ds) v) : ∃ a vs, v = .ref a ∧ H a = some (.lst vs) ∧ RVs K F P H ds vs := by
  rcases h with h | ⟨a, e, vs, o, r⟩
  · simp only [RV] at h
    obtain ⟨a, vs, e, _, q, r⟩ := h
    exact ⟨a, vs, e, q, r⟩
  · exact ⟨a, vs, e, o, r⟩
theorem RC.scr {ns : List Int} (h : RC K F P H (.scr ns) v) : ∃ a, v = .ref a ∧ SqL K H a (ns.map V.int) := by
  rcases h with h | ⟨_, _, o⟩
  · simp only [RV] at h
    obtain ⟨a, e, q⟩ := h
    exact ⟨a, e, q.seq⟩
  · exact o.elim
theorem rv_int {i : Int} : RV K F P H (.int i) (.int i) := by simp only [RV]
theorem rv_bl {b : Bool} : RV K F P H (.bl b) (.bl b) := by simp only [RV]
theorem rv_non : RV K F P H .non .non := by simp only [RV]
theorem rv_tup {a : Addr} {vs : List V} {ds : List D} (h : H a = some (.tup vs)) (r : RVs K F P H ds vs) : RV K F P H (.tup ds) (.ref a) := by
  simp only [RV]; exact ⟨a, vs, rfl, h, r⟩
end

/-! ### arithmetic -/
def gAdd : D → D → Option Hd
  | .int i, .int j => some (.val (.int (i + j)))
  | .tup a, .tup b => if a.length + b.length ≤ 16777216 then some (.val (.tup (a ++ b))) else none
  | .lst a, .lst b => if a.length + b.length ≤ 16777216 then some (.tmp (.lst (a ++ b))) else none
  | _, _ => none
theorem gAdd_ns : NS2 gAdd := by
  intro d e h q
  unfold gAdd at q
  split at q <;> first | (cases q; rfl) | (split at q <;> cases q; rfl) | cases q
section
variable {X : Cx}
theorem sz {n : Nat} (h : n ≤ 16777216) : n ≤ sizeLine := by rw [sizeLine_eq]; exact h
theorem op_addM : OpR X (binaryOp .Add) (rD X.K gAdd) := by
  intro pins s σ H x y v u Q I rx ry ⟨F, P, d1, d2, h, r1, r2, e, res⟩
  unfold gAdd at e
  split at e
  · cases e
    rw [r1.int] at rx
    rw [r2.int] at ry
    exact op_add pins s σ H _ _ v u Q I rx ry ⟨_, _, rfl, rfl, res.1 _ rv_int⟩
  · rename_i ds es
    split at e
    · rename_i hl
      cases e
      obtain ⟨a, vs, rfl, ha, ra⟩ := r1.tup
      obtain ⟨b, ws, rfl, hb, rb⟩ := r2.tup
      refine op_catA pins s σ H _ _ v u Q I rx ry ⟨a, b, vs, ws, rfl, rfl, .of ha, .of hb, by rw [ra.length, rb.length]; exact sz hl, fun z => ?_, fun _ z => ?_, fun _ _ p hp => ?_⟩
      · subst z
        have : ds = [] := List.eq_nil_of_length_eq_zero (by rw [← ra.length]; rfl)
        subst this
        exact res.1 _ (by simpa using rv_tup hb rb)
      · subst z
        have : es = [] := List.eq_nil_of_length_eq_zero (by rw [← rb.length]; rfl)
        subst this
        exact res.1 _ (by simpa using rv_tup ha ra)
      · exact res.2 p _ _ rfl (ra.append rb) hp
    · cases e
  · rename_i ds es
    split at e
    · rename_i hl
      cases e
      obtain ⟨a, vs, rfl, ha, ra⟩ := r1.lst
      obtain ⟨b, ws, rfl, hb, rb⟩ := r2.lst
      exact op_cat pins s σ H _ _ v u Q I rx ry ⟨a, b, vs, ws, rfl, rfl, ha, hb, by rw [ra.length, rb.length]; exact sz hl, fun p hp => res p _ _ rfl (ra.append rb) hp⟩
    · cases e
  · cases e
/-- ints alone -/
def gI (g : Int → Int → Option D) : D → D → Option Hd
  | .int i, .int j => (g i j).map .val
  | _, _ => none
theorem gI_ns {g : Int → Int → Option D} : NS2 (gI g) := by
  intro d e h q
  unfold gI at q
  split at q
  · rename_i i j
    cases z : g i j with
    | none => rw [z] at q; cases q
    | some d => rw [z] at q; cases q; rfl
  · cases q
theorem op_I {f : Value → Value → Sem Value} {C : Int → Int → Prop} {k : Int → Int → V} {g : Int → Int → Option D} (ho : OpR X f (rI C k)) (hg : ∀ i j d, g i j = some d → C i j ∧ ∀ F P H, RV X.K F P H d (k i j)) : OpR X f (rD X.K (gI g)) := by
  intro pins s σ H x y v u Q I rx ry ⟨F, P, d1, d2, h, r1, r2, e, res⟩
  unfold gI at e
  split at e
  · rename_i i j
    cases z : g i j with
    | none => rw [z] at e; cases e
    | some d =>
      rw [z] at e; cases e
      rw [r1.int] at rx
      rw [r2.int] at ry
      obtain ⟨c, rv⟩ := hg i j d z
      exact ho pins s σ H _ _ v u Q I rx ry ⟨i, j, rfl, rfl, c, res.1 _ (rv F P H)⟩
  · cases e
theorem op_I0 {f : Value → Value → Sem Value} {k : Int → Int → V} {g : Int → Int → Option D} (ho : OpR X f (rI0 k)) (hg : ∀ i j d, g i j = some d → ∀ F P H, RV X.K F P H d (k i j)) : OpR X f (rD X.K (gI g)) := by
  intro pins s σ H x y v u Q I rx ry ⟨F, P, d1, d2, h, r1, r2, e, res⟩
  unfold gI at e
  split at e
  · rename_i i j
    cases z : g i j with
    | none => rw [z] at e; cases e
    | some d =>
      rw [z] at e; cases e
      rw [r1.int] at rx
      rw [r2.int] at ry
      exact ho pins s σ H _ _ v u Q I rx ry ⟨i, j, rfl, rfl, res.1 _ (hg i j d z F P H)⟩
  · cases e
def iSub (i j : Int) : Option D := some (.int (i - j))
def iMul (i j : Int) : Option D := if i.natAbs < 18446744073709551616 ∨ j.natAbs < 18446744073709551616 then some (.int (i * j)) else none
def iDiv (i j : Int) : Option D := if 0 < j ∧ j < 1073741824 then some (.int (i / j)) else none
def iMod (i j : Int) : Option D := if 0 < j then some (.int (i % j)) else none
def CPowB (i j : Int) : Prop := 0 ≤ j ∧ (Builtin.Int.intBits i : Int) * j ≤ 2 ^ 27
theorem op_powB {X : Cx} : OpR X (binaryOp .Pow) (rI CPowB fun i j => .int (i ^ j.toNat)) := opI fun _ _ _ _ _ _ _ hc q => pow_int hc.1 hc.2 q
def iPow (i j : Int) : Option D := if 0 ≤ j ∧ (Builtin.Int.intBits i : Int) * j ≤ 134217728 then some (.int (i ^ j.toNat)) else none
def iShl (i j : Int) : Option D := if 0 ≤ j ∧ j ≤ 1000000 ∧ i.natAbs < 18446744073709551616 then some (.int (i * 2 ^ j.toNat)) else none
def iShr (i j : Int) : Option D := if 0 ≤ j then some (.int (i / 2 ^ j.toNat)) else none
def iAnd (i j : Int) : Option D := some (.int (Builtin.bitAnd i j))
def iXor (i j : Int) : Option D := some (.int (Builtin.bitXor i j))
def iLe (i j : Int) : Option D := some (.bl (decide (i ≤ j)))
def iGt (i j : Int) : Option D := some (.bl (decide (j < i)))
def iGe (i j : Int) : Option D := some (.bl (decide (j ≤ i)))
theorem op_subM : OpR X (binaryOp .Sub) (rD X.K (gI iSub)) := op_I0 op_sub fun i j d e F P H => by cases e; exact rv_int
theorem op_divM : OpR X (binaryOp .FloorDiv) (rD X.K (gI iDiv)) := op_I op_fdiv fun i j d e => by
  unfold iDiv at e
  split at e
  · rename_i c; cases e; exact ⟨c, fun F P H => rv_int⟩
  · cases e
theorem op_modM : OpR X (binaryOp .Mod) (rD X.K (gI iMod)) := op_I op_mod fun i j d e => by
  unfold iMod at e
  split at e
  · rename_i c; cases e; exact ⟨c, fun F P H => rv_int⟩
  · cases e
theorem op_powM : OpR X (binaryOp .Pow) (rD X.K (gI iPow)) := op_I op_powB fun i j d e => by
  unfold iPow at e
  split at e
  · rename_i c; cases e; exact ⟨c, fun F P H => rv_int⟩
  · cases e
theorem op_shlM : OpR X (binaryOp .LShift) (rD X.K (gI iShl)) := op_I op_shl fun i j d e => by
  unfold iShl at e
  split at e
  · rename_i c; cases e; exact ⟨c, fun F P H => rv_int⟩
  · cases e
theorem op_shrM : OpR X (binaryOp .RShift) (rD X.K (gI iShr)) := op_I op_shr fun i j d e => by
  unfold iShr at e
  split at e
  · rename_i c; cases e; exact ⟨c, fun F P H => rv_int⟩
  · cases e
theorem op_andM : OpR X (binaryOp .BitAnd) (rD X.K (gI iAnd)) := op_I0 op_and fun i j d e F P H => by cases e; exact rv_int
theorem op_xorM : OpR X (binaryOp .BitXor) (rD X.K (gI iXor)) := op_I0 op_xor fun i j d e F P H => by cases e; exact rv_int
theorem op_leM : OpR X (compareOp .LtE) (rD X.K (gI iLe)) := op_I0 op_le fun i j d e F P H => by cases e; exact rv_bl
theorem op_gtM : OpR X (compareOp .Gt) (rD X.K (gI iGt)) := op_I0 op_gt fun i j d e F P H => by cases e; exact rv_bl
theorem op_geM : OpR X (compareOp .GtE) (rD X.K (gI iGe)) := op_I0 op_ge fun i j d e F P H => by cases e; exact rv_bl
/-- *: ints; a list by an int -/
def gMul : D → D → Option Hd
  | .int i, .int j => (iMul i j).map .val
  | .lst a, .int k => if 0 ≤ k ∧ k ≤ 16777216 ∧ a.length * k.toNat ≤ 16777216 then some (.tmp (.lst (List.replicate k.toNat a).flatten)) else none
  | _, _ => none
theorem gMul_ns : NS2 gMul := by
  intro d e h q
  unfold gMul at q
  split at q
  · rename_i i j
    cases z : iMul i j with
    | none => rw [z] at q; cases q
    | some d => rw [z] at q; cases q; rfl
  · split at q <;> cases q; rfl
  · cases q
theorem RVs.rep {K : PySem.W.Frag} {F P : Addr → Prop} {H : Hp} {ds : List D} {vs : List V} (h : RVs K F P H ds vs) : ∀ k : Nat, RVs K F P H (List.replicate k ds).flatten (List.replicate k vs).flatten
  | 0 => .nil
  | k + 1 => by
    rw [List.replicate_succ, List.replicate_succ, List.flatten_cons, List.flatten_cons]
    exact h.append (RVs.rep h k)
theorem op_mulM : OpR X (binaryOp .Mult) (rD X.K gMul) := by
  intro pins s σ H x y v u Q I rx ry ⟨F, P, d1, d2, h, r1, r2, e, res⟩
  unfold gMul at e
  split at e
  · rename_i i j
    unfold iMul at e
    split at e
    · rename_i c
      cases e
      rw [r1.int] at rx
      rw [r2.int] at ry
      refine op_mul pins s σ H _ _ v u Q I rx ry ⟨i, j, rfl, rfl, ?_, res.1 _ rv_int⟩
      unfold CMul
      omega
    · cases e
  · rename_i ds k
    split at e
    · rename_i hk
      cases e
      obtain ⟨a, vs, rfl, ha, ra⟩ := r1.lst
      rw [r2.int] at ry
      refine op_rep pins s σ H _ _ v u Q I rx ry ⟨a, k, vs, rfl, rfl, ha, by omega, by omega, by rw [ra.length]; exact sz hk.2.2, fun p hp => res p _ _ rfl (ra.rep _) hp⟩
    · cases e
  · cases e
/-! ### comparisons -/
def DEEP : Nat := 40
def gEq (d e : D) : Option Hd := (eqDn DEEP d e).map fun b => .val (.bl b)
def gNe (d e : D) : Option Hd := (eqDn DEEP d e).map fun b => .val (.bl (!b))
def gLt (d e : D) : Option Hd := (ltDn DEEP d e).map fun b => .val (.bl b)
theorem map_ns {α : Type} {o : Option α} {f : α → D} {h : Hd} (e : o.map (fun b => Hd.val (f b)) = some h) : noSl h = true := by
  cases o with
  | none => cases e
  | some a => cases e; rfl
theorem gEq_ns : NS2 gEq := fun d e h q => map_ns q
theorem gNe_ns : NS2 gNe := fun d e h q => map_ns q
theorem gLt_ns : NS2 gLt := fun d e h q => map_ns q
theorem op_eqM (hu : X.A.units + DEEP < cLine) : OpR X (compareOp .Eq) (rD X.K gEq) := by
  intro pins s σ H x y v u Q I rx ry ⟨F, P, d1, d2, h, r1, r2, e, res⟩
  unfold gEq at e
  cases z : eqDn DEEP d1 d2 with
  | none => rw [z] at e; cases e
  | some b =>
    rw [z] at e; cases e
    exact (eqAt_of DEEP d1 d2 b v u (r1.vd I rx) (r2.vd I ry) z X.A hu).1 _ _ _ _ ⟨.bl b, H, I, rfl, res.1 _ rv_bl⟩
end
end Mi
set_option Elab.async false
set_option linter.all false
set_option maxRecDepth 100000
set_option maxHeartbeats 2000000
namespace Mi
open PySem PySem.Spec PyProof.Rows L2

section
variable {X : Cx}
theorem op_neM (hu : X.A.units + DEEP < cLine) : OpR X (compareOp .NotEq) (rD X.K gNe) := by
  intro pins s σ H x y v u Q I rx ry ⟨F, P, d1, d2, h, r1, r2, e, res⟩
  unfold gNe at e
  cases z : eqDn DEEP d1 d2 with
  | none => rw [z] at e; cases e
  | some b =>
    rw [z] at e; cases e
    exact neAt_of DEEP d1 d2 b v u (r1.vd I rx) (r2.vd I ry) z X.A hu _ _ _ _ ⟨.bl (!b), H, I, rfl, res.1 _ rv_bl⟩
theorem op_ltM (hu : X.A.units + DEEP < cLine) : OpR X (compareOp .Lt) (rD X.K gLt) := by
  intro pins s σ H x y v u Q I rx ry ⟨F, P, d1, d2, h, r1, r2, e, res⟩
  unfold gLt at e
  cases z : ltDn DEEP d1 d2 with
  | none => rw [z] at e; cases e
  | some b =>
    rw [z] at e; cases e
    exact ltAt_of DEEP d1 d2 b v u (r1.vd I rx) (r2.vd I ry) z X.A hu _ _ _ _ ⟨.bl b, H, I, rfl, res.1 _ rv_bl⟩
end

/-! ### in -/
def anyO (f : D → Option Bool) : List D → Option Bool
  | [] => some false
  | x :: xs => match f x, anyO f xs with
    | some b, some r => some (b || r)
    | _, _ => none
def idxO (f : D → Option Bool) : List D → Option Nat
  | [] => none
  | x :: xs => match f x with
    | some true => some 0
    | some false => (idxO f xs).map (· + 1)
    | none => none
noncomputable def eqF (h : Heap) (n : Nat) (d : D) (y : Value) : Bool := @decide (∃ d', Vd h d' y ∧ eqDn n d' d = some true) (Classical.propDecidable _)
theorem eqF_eq {h : Heap} {n : Nat} {d d' : D} {y : Value} {b : Bool} (v : Vd h d' y) (e : eqDn n d' d = some b) : eqF h n d y = b := by
  unfold eqF
  cases b with
  | true => exact @decide_eq_true _ (Classical.propDecidable _) ⟨d', v, e⟩
  | false =>
    refine @decide_eq_false _ (Classical.propDecidable _) fun ⟨d'', v', e'⟩ => ?_
    have := eq_det n _ _ _ _ _ _ v v' e e'
    cases this
theorem anyO_at {f : D → Option Bool} : ∀ {xs : List D} {b : Bool}, anyO f xs = some b → ∀ x, x ∈ xs → ∃ c, f x = some c
  | [], b, e, x, m => by cases m
  | y :: xs, b, e, x, m => by
    unfold anyO at e
    split at e
    · rename_i c r e1 e2
      rcases List.mem_cons.mp m with rfl | m
      · exact ⟨c, e1⟩
      · exact anyO_at e2 x m
    · cases e
theorem anyO_any {s : Shared} {n : Nat} {d : D} : ∀ {ds : List D} {its : List Value} {b : Bool}, Vds s.heap ds its → anyO (fun x => eqDn n x d) ds = some b → its.any (eqF s.heap n d) = b
  | [], its, b, v, e => by
    simp only [Vds] at v; subst v
    cases e; rfl
  | x :: ds, its, b, v, e => by
    simp only [Vds] at v
    obtain ⟨u, ur, rfl, q, r⟩ := v
    unfold anyO at e
    split at e
    · rename_i c r' e1 e2
      cases e
      rw [List.any_cons, eqF_eq q e1, anyO_any r e2]
    · cases e
theorem Vds.mem {h : Heap} {ds : List D} {us : List Value} {y : Value} (q : Vds h ds us) (m : y ∈ us) : ∃ (i : Nat) (d : D), ds[i]? = some d ∧ us[i]? = some y ∧ Vd h d y := by
  obtain ⟨i, hi, e⟩ := List.getElem_of_mem m
  have h1 : us[i]? = some y := by rw [List.getElem?_eq_getElem hi, e]
  have h2 : ds[i]? = some (ds[i]'(by rw [← q.length]; exact hi)) := List.getElem?_eq_getElem _
  exact ⟨i, _, h2, h1, q.get h2 h1⟩
theorem eqF_at {s : Shared} {n : Nat} {d : D} {u : Value} {ds : List D} {its : List Value} (v : Vds s.heap ds its) (vd : Vd s.heap d u) (e : ∀ x, x ∈ ds → ∃ c, eqDn n x d = some c) (A : Around) (hu : A.units + n < cLine) :
    ∀ y, y ∈ its → SeqAt.EqAt A s y u (eqF s.heap n d y) := by
  intro y m
  obtain ⟨i, x, e1, e2, q⟩ := v.mem m
  obtain ⟨c, ec⟩ := e x (List.mem_of_getElem? e1)
  rw [eqF_eq q ec]
  exact (eqAt_of n x d c y u q vd ec A hu).2
def seqD : D → Option (List D)
  | .tup l => some l
  | .lst l => some l
  | _ => none
def inO (d e : D) : Option Bool := match seqD e with
  | some l => anyO (fun x => eqDn DEEP x d) l
  | none => none
def gIn (d e : D) : Option Hd := (inO d e).map fun b => .val (.bl b)
def gNi (d e : D) : Option Hd := (inO d e).map fun b => .val (.bl (!b))
theorem gIn_ns : NS2 gIn := fun d e h q => map_ns q
theorem gNi_ns : NS2 gNi := fun d e h q => map_ns q
section
variable {X : Cx}
theorem RC.seq {K : PySem.W.Frag} {F P : Addr → Prop} {H : Hp} {d : D} {l : List D} {v : V} (h : RC K F P H d v) (e : seqD d = some l) : ∃ a vs, v = .ref a ∧ RVs K F P H l vs ∧ (H a = some (.tup vs) ∧ d = .tup l ∨ H a = some (.lst vs) ∧ d = .lst l) := by
  cases d with
  | tup l' =>
    cases e
    obtain ⟨a, vs, e, q, r⟩ := h.tup
    exact ⟨a, vs, e, r, .inl ⟨q, rfl⟩⟩
  | lst l' =>
    cases e
    obtain ⟨a, vs, e, q, r⟩ := h.lst
    exact ⟨a, vs, e, r, .inr ⟨q, rfl⟩⟩
  | _ => cases e
theorem op_inM (hu : X.A.units + DEEP + 1 < cLine) : OpR X (compareOp .In) (rD X.K gIn) := by
  intro pins s σ H x y v u Q I rx ry ⟨F, P, d1, d2, h, r1, r2, e, res⟩
  unfold gIn at e
  cases z : inO d1 d2 with
  | none => rw [z] at e; cases e
  | some b =>
    rw [z] at e; cases e
    unfold inO at z
    split at z
    · rename_i l el
      obtain ⟨a, vs, rfl, rs, ha⟩ := r2.seq el
      cases ry
      have hu' : X.A.in1.units + DEEP < cLine := by show X.A.units + 1 + DEEP < cLine; omega
      rcases ha with ⟨ha, _⟩ | ⟨ha, _⟩
      · obtain ⟨its, rv, p, _⟩ := I.tuple (.of ha)
        have vd := RVs.vd I l vs its rs rv
        refine SeqAt.in_tupleAt (items := its.toArray) (eqF s.heap DEEP d1) (show s.heap.IsTuple a its.toArray from p) (fun y m => eqF_at vd (r1.vd I rx) (anyO_at z) X.A.in1 hu' y (by simpa using m)) ?_
        have := anyO_any vd z
        simp only [List.any_toArray, this]
        exact ⟨.bl b, H, I, rfl, res.1 _ rv_bl⟩
      · obtain ⟨its, rv, p, _⟩ := I.list (.of ha)
        have vd := RVs.vd I l vs its rs rv
        refine SeqAt.in_listAt (items := its.toArray) (eqF s.heap DEEP d1) p.isList (fun y m => eqF_at vd (r1.vd I rx) (anyO_at z) X.A.in1 hu' y (by simpa using m)) ?_
        have := anyO_any vd z
        simp only [List.any_toArray, this]
        exact ⟨.bl b, H, I, rfl, res.1 _ rv_bl⟩
    · cases z
theorem op_niM (hu : X.A.units + DEEP + 1 < cLine) : OpR X (compareOp .NotIn) (rD X.K gNi) := by
  intro pins s σ H x y v u Q I rx ry ⟨F, P, d1, d2, h, r1, r2, e, res⟩
  unfold gNi at e
  cases z : inO d1 d2 with
  | none => rw [z] at e; cases e
  | some b =>
    rw [z] at e; cases e
    unfold inO at z
    split at z
    · rename_i l el
      obtain ⟨a, vs, rfl, rs, ha⟩ := r2.seq el
      cases ry
      have hu' : X.A.in1.units + DEEP < cLine := by show X.A.units + 1 + DEEP < cLine; omega
      rcases ha with ⟨ha, _⟩ | ⟨ha, _⟩
      · obtain ⟨its, rv, p, _⟩ := I.tuple (.of ha)
        have vd := RVs.vd I l vs its rs rv
        refine SeqAt.notIn_tupleAt (items := its.toArray) (eqF s.heap DEEP d1) (show s.heap.IsTuple a its.toArray from p) (fun y m => eqF_at vd (r1.vd I rx) (anyO_at z) X.A.in1 hu' y (by simpa using m)) ?_
        have := anyO_any vd z
        simp only [List.any_toArray, this]
        exact ⟨.bl (!b), H, I, rfl, res.1 _ rv_bl⟩
      · obtain ⟨its, rv, p, _⟩ := I.list (.of ha)
        have vd := RVs.vd I l vs its rs rv
        refine SeqAt.notIn_listAt (items := its.toArray) (eqF s.heap DEEP d1) p.isList (fun y m => eqF_at vd (r1.vd I rx) (anyO_at z) X.A.in1 hu' y (by simpa using m)) ?_
        have := anyO_any vd z
        simp only [List.any_toArray, this]
        exact ⟨.bl (!b), H, I, rfl, res.1 _ rv_bl⟩
    · cases z
/-! ### is None, is True -/
def isN : D → Option Bool
  | .non => some true
  | .bl _ => some false
  | .int _ => some false
  | .str _ => some false
  | .tup _ => some false
  | .lst _ => some false
  | _ => none
theorem isN_of {K : PySem.W.Frag} {F P : Addr → Prop} {H : Hp} {d : D} {v : V} {b : Bool} (h : RC K F P H d v) (e : isN d = some b) : decide (v = .non) = b := by
  cases d with
  | non => cases e; rw [h.non]; rfl
  | bl _ => cases e; rw [h.bl]; rfl
  | int _ => cases e; rw [h.int]; rfl
  | str _ => cases e; rw [h.str]; rfl
  | tup _ => cases e; obtain ⟨a, _, e, _⟩ := h.tup; rw [e]; rfl
  | lst _ => cases e; obtain ⟨a, _, e, _⟩ := h.lst; rw [e]; rfl
  | _ => cases e
def gIs (d e : D) : Option Hd := match e with
  | .non => (isN d).map fun b => .val (.bl b)
  | .bl c => match d with
    | .bl b => some (.val (.bl (b == c)))
    | _ => none
  | _ => none
def gIsN (d e : D) : Option Hd := match e with
  | .non => (isN d).map fun b => .val (.bl (!b))
  | .bl c => match d with
    | .bl b => some (.val (.bl (!(b == c))))
    | _ => none
  | _ => none
theorem gIs_ns : NS2 gIs := by
  intro d e h q
  unfold gIs at q
  split at q
  · exact map_ns q
  · split at q <;> first | (cases q; rfl) | cases q
  · cases q
theorem gIsN_ns : NS2 gIsN := by
  intro d e h q
  unfold gIsN at q
  split at q
  · exact map_ns q
  · split at q <;> first | (cases q; rfl) | cases q
  · cases q
theorem op_isM : OpR X (compareOp .Is) (rD X.K gIs) := by
  intro pins s σ H x y v u Q I rx ry ⟨F, P, d1, d2, h, r1, r2, e, res⟩
  unfold gIs at e
  split at e
  · cases z : isN d1 with
    | none => rw [z] at e; cases e
    | some b =>
      rw [z] at e; cases e
      refine op_isN pins s σ H x y v u Q I rx ry ⟨r2.non, ?_⟩
      rw [isN_of r1 z]
      exact res.1 _ rv_bl
  · split at e
    · cases e
      rename_i c d b
      refine op_isBl pins s σ H x y v u Q I rx ry ⟨b, c, r1.bl, r2.bl, ?_⟩
      have : (b == c) = decide (b = c) := by cases b <;> cases c <;> rfl
      rw [← this]
      exact res.1 _ rv_bl
    · cases e
  · cases e
theorem op_isnM : OpR X (compareOp .IsNot) (rD X.K gIsN) := by
  intro pins s σ H x y v u Q I rx ry ⟨F, P, d1, d2, h, r1, r2, e, res⟩
  unfold gIsN at e
  split at e
  · cases z : isN d1 with
    | none => rw [z] at e; cases e
    | some b =>
      rw [z] at e; cases e
      refine op_notN pins s σ H x y v u Q I rx ry ⟨r2.non, ?_⟩
      rw [isN_of r1 z]
      exact res.1 _ rv_bl
  · split at e
    · cases e
      rename_i c d b
      refine op_notBl pins s σ H x y v u Q I rx ry ⟨b, c, r1.bl, r2.bl, ?_⟩
      have : (b == c) = decide (b = c) := by cases b <;> cases c <;> rfl
      rw [← this]
      exact res.1 _ rv_bl
    · cases e
  · cases e
def gNeg : D → Option Hd
  | .int i => some (.val (.int (-i)))
  | _ => none
theorem gNeg_ns : NS1 gNeg := by
  intro d h q
  unfold gNeg at q
  split at q <;> first | (cases q; rfl) | cases q
theorem un_negM : UnR X (unaryOp .USub) (rD1 X.K gNeg) := by
  intro pins s σ H x v Q I rx ⟨F, P, d1, h, r1, e, res⟩
  unfold gNeg at e
  split at e
  · cases e
    exact un_neg pins s σ H x v Q I rx ⟨_, r1.int, res.1 _ rv_int⟩
  · cases e
/-! ### a[i], a[i:j] -/
/-- 17: what a place holds -/
def gIx (d e : D) : Option Hd := match e with
  | .int i => match d with
    | .tup l => (atI l i).map .val
    | .lst l => (atI l i).map .val
    | .scr ns => (atI ns i).map fun n => .val (.int n)
    | _ => none
  | _ => none
theorem gIx_ns : NS2 gIx := by
  intro d e h q
  unfold gIx at q
  split at q
  · split at q
    · rename_i l
      cases z : atI l _ with
      | none => rw [z] at q; cases q
      | some d => rw [z] at q; cases q; rfl
    · rename_i l
      cases z : atI l _ with
      | none => rw [z] at q; cases q
      | some d => rw [z] at q; cases q; rfl
    · rename_i l
      cases z : atI l _ with
      | none => rw [z] at q; cases q
      | some d => rw [z] at q; cases q; rfl
    · cases q
  · cases q
theorem RVs.atI {K : PySem.W.Frag} {F P : Addr → Prop} {H : Hp} {l : List D} {vs : List V} {i : Int} {d : D} (r : RVs K F P H l vs) (e : atI l i = some d) : ∃ v, L2.atI vs i = some v ∧ RV K F P H d v := by
  unfold L2.atI at e ⊢
  rw [r.length]
  cases z : ixN l.length i with
  | none => rw [z] at e; cases e
  | some j =>
    rw [z] at e
    exact r.get e
theorem ix_M : IxR X (rD X.K gIx) := by
  intro value slice pins s σ H x y v u Q I rx ry ⟨F, P, d1, d2, h, r1, r2, e, res⟩ hs
  unfold gIx at e
  split at e
  · rename_i i
    split at e
    · rename_i l
      cases z : atI l i with
      | none => rw [z] at e; cases e
      | some d =>
        rw [z] at e; cases e
        obtain ⟨a, vs, rfl, ha, ra⟩ := r1.tup
        obtain ⟨w, ew, rw'⟩ := ra.atI z
        exact ix_tup value slice pins s σ H _ _ v u Q I rx ry ⟨a, vs, i, w, rfl, r2.int, .of ha, ew, res.1 _ rw'⟩ hs
    · rename_i l
      cases z : atI l i with
      | none => rw [z] at e; cases e
      | some d =>
        rw [z] at e; cases e
        obtain ⟨a, vs, rfl, ha, ra⟩ := r1.lst
        obtain ⟨w, ew, rw'⟩ := ra.atI z
        exact ix_list value slice pins s σ H _ _ v u Q I rx ry ⟨a, vs, i, w, rfl, r2.int, .of ha, ew, res.1 _ rw'⟩ hs
    · rename_i ns
      cases z : atI ns i with
      | none => rw [z] at e; cases e
      | some n =>
        rw [z] at e; cases e
        obtain ⟨a, rfl, ha⟩ := r1.scr
        have z' : L2.atI (ns.map V.int) i = some (.int n) := by
          unfold L2.atI at z ⊢
          rw [List.length_map]
          cases z2 : ixN ns.length i with
          | none => rw [z2] at z; cases z
          | some j =>
            rw [z2] at z
            have z' : ns[j]? = some n := z
            show (ns.map V.int)[j]? = some (.int n)
            rw [List.getElem?_map, z']; rfl
        exact ix_list value slice pins s σ H _ _ v u Q I rx ry ⟨a, _, i, _, rfl, r2.int, ha, z', res.1 _ rv_int⟩ hs
    · cases e
  · cases e
end
end Mi
set_option Elab.async false
set_option linter.all false
set_option maxRecDepth 100000
set_option maxHeartbeats 2000000
namespace Mi
open PySem PySem.Spec PyProof.Rows L2

/-! ### a[lo:hi] -/
abbrev MO := Ev → T (Option Int × Ev)
section
variable {K : PySem.W.Frag} {Z : Fr} {N N' N'' : Nat} {F P F' P' F'' P'' : Addr → Prop} {env env' env'' e0 : Ev} {σ : L2.St} {H H' H'' H0 : Hp} {F0 P0 : Addr → Prop}
def tO (K : PySem.W.Frag) (Z : Fr) (m : MO) : TO := fun σ H Q => ∃ N F P env, StR K Z N F P env σ H ∧ (m env).ok N fun N' r =>
  ∀ H' F' P', Ext σ env F P H r.2 F' P' H' → StR K Z N' F' P' r.2 σ H' → Q r.1 H'
def oNone : MO := fun env => .ret (none, env)
def oSome (m : M) : MO := fun env => (m env).bind fun r => match r.1 with
  | .val (.int i) => .ret (some i, r.2)
  | _ => .fail
theorem oNone_ok {Q : Option Int → Hp → Prop} (h : tO K Z oNone σ H Q) : tNoPart σ H Q := by
  obtain ⟨N, F, P, env, S, h⟩ := h
  exact h H F P Ext.refl S
theorem oSome_ok {m : M} {Q : Option Int → Hp → Prop} (h : tO K Z (oSome m) σ H Q) : tPart (tM K Z m) σ H Q := by
  obtain ⟨N, F, P, env, S, h⟩ := h
  refine ⟨N, F, P, env, S, T.ok_mono (fun N1 r1 q1 => ?_) (T.ok_bind h)⟩
  intro v H1 F1 P1 E1 S1 R1 Y1
  split at q1
  · rename_i i e
    rw [e] at R1
    have R1' : RV K F1 P1 H1 (.int i) v := R1
    simp only [RV] at R1'
    exact ⟨i, R1', q1 H1 F1 P1 E1 S1⟩
  · exact q1.elim
theorem PO.imp {X : Cx} {e : Option Expr} {t t' : TO} (h : PO X e t) (w : ∀ {σ H Q}, t' σ H Q → t σ H Q) : PO X e t' :=
  ⟨fun pins s σ H Q I q => h.run pins s σ H Q I (w q)⟩
def cutD (xs : List D) (lo hi : Option Int) : List D := (xs.drop (HT.sIx xs.length 0 lo)).take (HT.sIx xs.length xs.length hi - HT.sIx xs.length 0 lo)
def gSl (d : D) (lo hi : Option Int) : Option Hd := match d with
  | .tup l => some (.val (.tup (cutD l lo hi)))
  | .lst l => some (.tmp (.lst (cutD l lo hi)))
  | .scr ns => some (.tmp (.lst (cutD (ns.map .int) lo hi)))
  | _ => none
def eSl (m : M) (lo hi : MO) : M := fun env => (m env).bind fun r1 => (lo r1.2).bind fun r2 => (hi r2.2).bind fun r3 => match rs r3.2 r1.1 with
  | some d => match gSl d r2.1 r3.1 with
    | some h => .ret (h, r3.2)
    | none => .fail
  | none => .fail
def rSlM (K : PySem.W.Frag) : V → Option Int → Option Int → Hp → VK → Prop := fun x lo hi H Q => ∃ F P d h, RC K F P H d x ∧ gSl d lo hi = some h ∧ ResK K F P H h Q
theorem RVs.cut {ds : List D} {vs : List V} {lo hi : Option Int} (r : RVs K F P H ds vs) : RVs K F P H (cutD ds lo hi) (cutV vs lo hi) := by
  unfold cutD cutV
  rw [r.length]
  exact (r.drop _).take _
theorem RVs.ints : ∀ {ns : List Int}, RVs K F P H (ns.map .int) (ns.map V.int)
  | [] => .nil
  | n :: ns => .cons (by simp only [RV]) RVs.ints
theorem eSl_ok {m : M} {lo hi : MO} {Q : VK} (h : tM K Z (eSl m lo hi) σ H Q) : tSl (rSlM K) (tM K Z m) (tO K Z lo) (tO K Z hi) σ H Q := by
  obtain ⟨N, F, P, env, S, h⟩ := h
  refine ⟨N, F, P, env, S, T.ok_mono (fun N1 r1 q1 => ?_) (T.ok_bind h)⟩
  intro v1 H1 F1 P1 E1 S1 R1 Y1
  refine ⟨N1, F1, P1, r1.2, S1, T.ok_mono (fun N2 r2 q2 => ?_) (T.ok_bind q1)⟩
  intro H2 F2 P2 E2 S2
  refine ⟨N2, F2, P2, r2.2, S2, T.ok_mono (fun N3 r3 q3 => ?_) (T.ok_bind q2)⟩
  intro H3 F3 P3 E3 S3
  split at q3
  · rename_i d e
    split at q3
    · rename_i h' e'
      have ns : ∀ i, h' ≠ .slot i := by
        intro i z
        subst z
        unfold gSl at e'
        split at e' <;> cases e'
      exact ⟨F3, P3, d, h', (R1.ext S1 (E2.trans E3)).rc S3 e, e', Post.res S3 ns (Post.from (E1.trans (E2.trans E3)) q3)⟩
    · exact q3.elim
  · exact q3.elim
theorem sl_M {X : Cx} : SlR X (rSlM X.K) := by
  intro pins s σ H x v vl vu lo hi sl Q I rx hs pl pu ⟨F, P, d, h, r1, e, res⟩
  unfold gSl at e
  split at e
  · rename_i l
    cases e
    obtain ⟨a, vs, rfl, ha, ra⟩ := r1.tup
    refine sl_tupA pins s σ H _ v vl vu lo hi sl Q I rx hs pl pu ⟨a, vs, rfl, .of ha, fun w => ?_, fun _ p hp => ?_⟩
    · have : cutD l lo hi = l := by
        unfold cutD
        rw [← ra.length, w.1, w.2]
        simp [ra.length]
      rw [this] at res
      exact res.1 _ (rv_tup ha ra)
    · exact res.2 p _ _ rfl ra.cut hp
  · rename_i l
    cases e
    obtain ⟨a, vs, rfl, ha, ra⟩ := r1.lst
    exact sl_list pins s σ H _ v vl vu lo hi sl Q I rx hs pl pu ⟨a, vs, rfl, .of ha, fun p hp => res p _ _ rfl ra.cut hp⟩
  · rename_i ns
    cases e
    obtain ⟨a, rfl, ha⟩ := r1.scr
    exact sl_list pins s σ H _ v vl vu lo hi sl Q I rx hs pl pu ⟨a, _, rfl, ha, fun p hp => res p _ _ rfl (RVs.cut RVs.ints) hp⟩
  · cases e

/-! ### chains -/
def eChain (g g' : D → D → Option Hd) (ma mb mc : M) : M := fun env => (ma env).bind fun r1 => (mb r1.2).bind fun r2 => match rs r2.2 r1.1, rs r2.2 r2.1 with
  | some d1, some d2 => match g d1 d2 with
    | some (.val (.bl true)) => (mc r2.2).bind fun r3 => match rs r3.2 r2.1, rs r3.2 r3.1 with
      | some d2, some d3 => match g' d2 d3 with
        | some h => .ret (h, r3.2)
        | none => .fail
      | _, _ => .fail
    | some (.val (.bl false)) => .ret (.val (.bl false), r2.2)
    | _ => .fail
  | _, _ => .fail
theorem Post.blres {Q : VK} (S : StR K Z N F P env σ H) {b : Bool} (q : Q (.bl b) H) : ResK K F P H (.val (.bl b)) Q :=
  ⟨fun v r => by simp only [RV] at r; subst r; exact q, fun p vs ds e => by cases e⟩
theorem eChain_ok {r r' : R2} {g g' : D → D → Option Hd} {ma mb mc : M} {Q : VK} (hr : Op2 K r g) (hr' : Op2 K r' g') (h : tM K Z (eChain g g' ma mb mc) σ H Q) : tChain r r' (tM K Z ma) (tM K Z mb) (tM K Z mc) σ H Q := by
  obtain ⟨N, F, P, env, S, h⟩ := h
  refine ⟨N, F, P, env, S, T.ok_mono (fun N1 r1 q1 => ?_) (T.ok_bind h)⟩
  intro v1 H1 F1 P1 E1 S1 R1 Y1
  refine ⟨N1, F1, P1, r1.2, S1, T.ok_mono (fun N2 r2 q2 => ?_) (T.ok_bind q1)⟩
  intro v2 H2 F2 P2 E2 S2 R2 Y2
  split at q2
  · rename_i d1 d2 e1 e2
    split at q2
    · rename_i e3
      refine (hr ((R1.ext S1 E2).rc S2 e1) (R2.rc S2 e2) e3).2 (Post.blres S2 ⟨true, rfl, iteT ?_⟩)
      refine ⟨N2, F2, P2, r2.2, S2, T.ok_mono (fun N3 r3 q3 => ?_) (T.ok_bind q2)⟩
      intro v3 H3 F3 P3 E3 S3 R3 Y3
      split at q3
      · rename_i d2' d3 e4 e5
        split at q3
        · rename_i h' e6
          obtain ⟨ns, go⟩ := hr' (Q := Q) ((R2.ext S2 E3).rc S3 e4) (R3.rc S3 e5) e6
          exact go (Post.res S3 ns (Post.from (E1.trans (E2.trans E3)) q3))
        · exact q3.elim
      · exact q3.elim
    · rename_i e3
      refine (hr ((R1.ext S1 E2).rc S2 e1) (R2.rc S2 e2) e3).2 (Post.blres S2 ⟨false, rfl, iteF ?_⟩)
      exact q2 (.bl false) H2 F2 P2 (E1.trans E2) S2 (by show RV K F2 P2 H2 (.bl false) _; simp only [RV]) trivial
    · exact q2.elim
  · exact q2.elim

/-! ### isinstance -/
def tyD : D → Option String
  | .non => some "NoneType"
  | .bl _ => some "bool"
  | .int _ => some "int"
  | .str _ => some "str"
  | .tup _ => some "tuple"
  | .lst _ => some "list"
  | _ => none
theorem RC.tyx {d : D} {v : V} {t : String} (r : RC K F P H d v) (e : tyD d = some t) : TyX K H v (.type t) := by
  cases d with
  | non => cases e; rw [r.non]; exact .base .non
  | bl b => cases e; rw [r.bl]; exact .base (.bl b)
  | int i => cases e; rw [r.int]; exact .base (.int i)
  | str x => cases e; rw [r.str]; exact .base (.str _)
  | tup l => cases e; obtain ⟨a, vs, rfl, ha, _⟩ := r.tup; exact .base (.tup ha)
  | lst l => cases e; obtain ⟨a, vs, rfl, ha, _⟩ := r.lst; exact .base (.lst ha)
  | _ => cases e
/-- is the first a kind of the second -/
def isK (t T : String) : Option Bool :=
  if t = "NoneType" ∨ t = "bool" ∨ t = "int" ∨ t = "str" ∨ t = "tuple" ∨ t = "list" then
    if T = "bool" ∨ T = "int" ∨ T = "str" ∨ T = "tuple" ∨ T = "list" then some (t == T || (t == "bool" && T == "int")) else none
  else none
theorem isK_kit {t T : String} {b : Bool} (e : isK t T = some b) : kitB t T = some b := by
  unfold isK at e
  split at e
  · rename_i h1
    split at e
    · rename_i h2
      rcases h1 with rfl | rfl | rfl | rfl | rfl | rfl <;> rcases h2 with rfl | rfl | rfl | rfl | rfl <;> cases e <;> decide +kernel
    · cases e
  · cases e
def gIsi (T : String) (d : D) : Option Bool := match tyD d with
  | some t => isK t T
  | none => none
def eIsi (T : String) (m : M) : M := fun env => (m env).bind fun r => match rs r.2 r.1 with
  | some d => match gIsi T d with
    | some b => .ret (.val (.bl b), r.2)
    | none => .fail
  | none => .fail
theorem eIsi_ok {T' : String} {m : M} {Q : VK} (h : tM K Z (eIsi T' m) σ H Q) : tCB (rIsi K) (tCons (tM K Z m) (tCons (tC (.ty T')) tNil)) σ H Q := by
  obtain ⟨N, F, P, env, S, h⟩ := h
  refine ⟨N, F, P, env, S, T.ok_mono (fun N1 r1 q1 => ?_) (T.ok_bind h)⟩
  intro v1 H1 F1 P1 E1 S1 R1 Y1
  split at q1
  · rename_i d e
    split at q1
    · rename_i b e2
      unfold gIsi at e2
      split at e2
      · rename_i t e3
        exact ⟨v1, .ty T', .type t, .type T', b, rfl, .ty T', (R1.rc S1 e).tyx e3, kit_ty (isK_kit e2), q1 (.bl b) H1 F1 P1 E1 S1 (by show RV K F1 P1 H1 (.bl b) _; simp only [RV]) trivial⟩
      · cases e2
    · exact q1.elim
  · exact q1.elim
end
end Mi
set_option Elab.async false
set_option linter.all false
set_option maxRecDepth 100000
set_option maxHeartbeats 2000000
namespace Mi
open PySem PySem.Spec PyProof.Rows L2

section
variable {K : PySem.W.Frag} {F P : Addr → Prop} {H : Hp}
theorem RCs.one {d : D} {vs : List V} (h : RCs K F P H [d] vs) : ∃ v, vs = [v] ∧ RC K F P H d v := by
  obtain ⟨v, vr, e, r, e2⟩ := h
  have e2' : vr = [] := e2
  subst e2'
  exact ⟨v, e, r⟩
theorem RCs.two {d e : D} {vs : List V} (h : RCs K F P H [d, e] vs) : ∃ v u, vs = [v, u] ∧ RC K F P H d v ∧ RC K F P H e u := by
  obtain ⟨v, vr, e, r, e2⟩ := h
  obtain ⟨u, rfl, r2⟩ := RCs.one e2
  exact ⟨v, u, e, r, r2⟩
theorem RCs.three {d e f : D} {vs : List V} (h : RCs K F P H [d, e, f] vs) : ∃ v u w, vs = [v, u, w] ∧ RC K F P H d v ∧ RC K F P H e u ∧ RC K F P H f w := by
  obtain ⟨v, vr, e, r, e2⟩ := h
  obtain ⟨u, w, rfl, r2, r3⟩ := RCs.two e2
  exact ⟨v, u, w, e, r, r2, r3⟩
end
/-- 1, 2, 3 places -/
def g1 (g : D → Option Hd) : List D → Option Hd
  | [d] => g d
  | _ => none
def gI2 (g : Int → Int → Int) : List D → Option Hd
  | [.int i, .int j] => some (.val (.int (g i j)))
  | _ => none
def gI3 (g : Int → Int → Int → Int) : List D → Option Hd
  | [.int i, .int j, .int k] => some (.val (.int (g i j k)))
  | _ => none
theorem g1_ns {g : D → Option Hd} (h : NS1 g) : NSN (g1 g) := by
  intro d x q
  unfold g1 at q
  split at q
  · exact h _ _ q
  · cases q
theorem gI2_ns {g : Int → Int → Int} : NSN (gI2 g) := by
  intro d x q
  unfold gI2 at q
  split at q <;> cases q; rfl
theorem gI3_ns {g : Int → Int → Int → Int} : NSN (gI3 g) := by
  intro d x q
  unfold gI3 at q
  split at q <;> cases q; rfl
def lenD : D → Option Hd
  | .tup l => some (.val (.int l.length))
  | .lst l => some (.val (.int l.length))
  | .scr l => some (.val (.int l.length))
  | _ => none
def intD : D → Option Hd
  | .int i => some (.val (.int i))
  | .bl b => some (.val (.int (if b then 1 else 0)))
  | _ => none
def absD : D → Option Hd
  | .int i => some (.val (.int (if i < 0 then -i else i)))
  | _ => none
def listD : D → Option Hd
  | .tup l => some (.tmp (.lst l))
  | .lst l => some (.tmp (.lst l))
  | .scr l => some (.tmp (.lst (l.map .int)))
  | _ => none
def tupleD : D → Option Hd
  | .tup l => some (.val (.tup l))
  | .lst l => some (.val (.tup l))
  | .scr l => some (.val (.tup (l.map .int)))
  | _ => none
def intsO : List D → Option (List Int)
  | [] => some []
  | .int i :: ds => (intsO ds).map (i :: ·)
  | _ => none
def blsO : List D → Option (List Bool)
  | [] => some []
  | .bl i :: ds => (blsO ds).map (i :: ·)
  | _ => none
def sumD (d : D) : Option Hd := match seqD d with
  | some l => (intsO l).map fun ns => .val (.int ns.sum)
  | none => none
def allD (d : D) : Option Hd := match seqD d with
  | some l => (blsO l).map fun ns => .val (.bl (ns.all id))
  | none => none
def anyD (d : D) : Option Hd := match seqD d with
  | some l => (blsO l).map fun ns => .val (.bl (ns.any id))
  | none => none
theorem lenD_ns : NS1 lenD := by
  intro d h q; unfold lenD at q; split at q <;> cases q <;> rfl
theorem intD_ns : NS1 intD := by
  intro d h q; unfold intD at q; split at q <;> cases q <;> rfl
theorem absD_ns : NS1 absD := by
  intro d h q; unfold absD at q; split at q <;> cases q <;> rfl
theorem listD_ns : NS1 listD := by
  intro d h q; unfold listD at q; split at q <;> cases q <;> rfl
theorem tupleD_ns : NS1 tupleD := by
  intro d h q; unfold tupleD at q; split at q <;> cases q <;> rfl
theorem mapv_ns {α : Type} {o : Option α} {f : α → D} {h : Hd} (e : (match o with | some a => some (Hd.val (f a)) | none => none) = some h) : noSl h = true := by
  cases o with
  | none => cases e
  | some a => cases e; rfl
theorem sumD_ns : NS1 sumD := by
  intro d h q; unfold sumD at q; split at q
  · exact map_ns q
  · cases q
theorem allD_ns : NS1 allD := by
  intro d h q; unfold allD at q; split at q
  · exact map_ns q
  · cases q
theorem anyD_ns : NS1 anyD := by
  intro d h q; unfold anyD at q; split at q
  · exact map_ns q
  · cases q
section
variable {X : Cx}
theorem cr_g1 {f : Value} {g : D → Option Hd} (h : ∀ (pins : List (Addr × Obj)) (s : Shared) (σ : L2.St) (H : Hp) (x : V) (us : List Value) (Q : VK) (F P : Addr → Prop) (d : D) (hd : Hd), Inv X pins σ H s → Vals [x] us → RC X.K F P H d x → g d = some hd → ResK X.K F P H hd Q →
    wpAny (model X.prog X.w) X.A (call f us) (EP X pins σ Q) X.xe s) : CallR X f (rDN X.K (g1 g)) := by
  intro pins s σ H xs us Q I r ⟨F, P, ds, hd, rs, e, res⟩
  unfold g1 at e
  split at e
  · obtain ⟨x, rfl, r1⟩ := rs.one
    exact h pins s σ H x us Q F P _ hd I r r1 e res
  · cases e
theorem call_lenM : CallR X (.builtin "len") (rDN X.K (g1 lenD)) := cr_g1 fun pins s σ H x us Q F P d hd I r r1 e res => by
  unfold lenD at e
  split at e
  · cases e
    obtain ⟨a, vs, rfl, ha, ra⟩ := r1.tup
    refine call_len_seq pins s σ H _ us Q I r ⟨a, vs, rfl, .inr (.of ha), ?_⟩
    rw [ra.length]
    exact res.1 _ rv_int
  · cases e
    obtain ⟨a, vs, rfl, ha, ra⟩ := r1.lst
    refine call_len_seq pins s σ H _ us Q I r ⟨a, vs, rfl, .inl (.of ha), ?_⟩
    rw [ra.length]
    exact res.1 _ rv_int
  · rename_i l
    cases e
    obtain ⟨a, rfl, ha⟩ := r1.scr
    refine call_len_seq pins s σ H _ us Q I r ⟨a, _, rfl, .inl ha, ?_⟩
    rw [List.length_map]
    exact res.1 _ rv_int
  · cases e
theorem call_intM : CallR X (.type "int") (rDN X.K (g1 intD)) := cr_g1 fun pins s σ H x us Q F P d hd I r r1 e res => by
  unfold intD at e
  split at e
  · cases e
    exact call_int1 pins s σ H _ us Q I r (.inl ⟨_, by rw [r1.int], res.1 _ rv_int⟩)
  · cases e
    exact call_int1 pins s σ H _ us Q I r (.inr ⟨_, by rw [r1.bl], res.1 _ rv_int⟩)
  · cases e
theorem call_absM : CallR X (.builtin "abs") (rDN X.K (g1 absD)) := cr_g1 fun pins s σ H x us Q F P d hd I r r1 e res => by
  unfold absD at e
  split at e
  · cases e
    exact call_abs pins s σ H _ us Q I r ⟨_, by rw [r1.int], res.1 _ rv_int⟩
  · cases e
theorem call_listM : CallR X (.type "list") (rDN X.K (g1 listD)) := cr_g1 fun pins s σ H x us Q F P d hd I r r1 e res => by
  unfold listD at e
  split at e
  · cases e
    obtain ⟨a, vs, rfl, ha, ra⟩ := r1.tup
    exact call_list_of pins s σ H _ us Q I r ⟨a, vs, rfl, .inr (.of ha), fun p hp => res p _ _ rfl ra hp⟩
  · cases e
    obtain ⟨a, vs, rfl, ha, ra⟩ := r1.lst
    exact call_list_of pins s σ H _ us Q I r ⟨a, vs, rfl, .inl (.of ha), fun p hp => res p _ _ rfl ra hp⟩
  · cases e
    obtain ⟨a, rfl, ha⟩ := r1.scr
    exact call_list_of pins s σ H _ us Q I r ⟨a, _, rfl, .inl ha, fun p hp => res p _ _ rfl RVs.ints hp⟩
  · cases e
theorem call_tupleM : CallR X (.type "tuple") (rDN X.K (g1 tupleD)) := cr_g1 fun pins s σ H x us Q F P d hd I r r1 e res => by
  unfold tupleD at e
  split at e
  · cases e
    obtain ⟨a, vs, rfl, ha, ra⟩ := r1.tup
    exact call_tuple_of pins s σ H _ us Q I r ⟨a, vs, rfl, .inr ⟨.of ha, res.1 _ (rv_tup ha ra)⟩⟩
  · cases e
    obtain ⟨a, vs, rfl, ha, ra⟩ := r1.lst
    exact call_tuple_of pins s σ H _ us Q I r ⟨a, vs, rfl, .inl ⟨.of ha, fun p hp => res.2 p _ _ rfl ra hp⟩⟩
  · cases e
    obtain ⟨a, rfl, ha⟩ := r1.scr
    exact call_tuple_of pins s σ H _ us Q I r ⟨a, _, rfl, .inl ⟨ha, fun p hp => res.2 p _ _ rfl RVs.ints hp⟩⟩
  · cases e
theorem cr_I2 {f : Value} {g : Int → Int → Int} (h : CallR X f fun xs H Q => ∃ i j, xs = [.int i, .int j] ∧ Q (.int (g i j)) H) : CallR X f (rDN X.K (gI2 g)) := by
  intro pins s σ H xs us Q I r ⟨F, P, ds, hd, rs, e, res⟩
  unfold gI2 at e
  split at e
  · cases e
    obtain ⟨x, y, rfl, r1, r2⟩ := rs.two
    exact h pins s σ H _ us Q I r ⟨_, _, by rw [r1.int, r2.int], res.1 _ rv_int⟩
  · cases e
theorem call_max2M (hc : X.calm = true) : CallR X (.builtin "max") (rDN X.K (gI2 max)) := cr_I2 fun pins s σ H xs us Q I r ⟨i, j, e, q⟩ =>
  call_max2 hc pins s σ H xs us Q I r ⟨i, j, e, by rw [show (if j > i then j else i) = max i j by split <;> omega]; exact q⟩
theorem call_min2M (hc : X.calm = true) : CallR X (.builtin "min") (rDN X.K (gI2 min)) := cr_I2 fun pins s σ H xs us Q I r ⟨i, j, e, q⟩ =>
  call_min2 hc pins s σ H xs us Q I r ⟨i, j, e, by rw [show (if j < i then j else i) = min i j by split <;> omega]; exact q⟩
theorem call_max3M (hc : X.calm = true) : CallR X (.builtin "max") (rDN X.K (gI3 fun i j k => max (max i j) k)) := by
  intro pins s σ H xs us Q I r ⟨F, P, ds, hd, rs, e, res⟩
  unfold gI3 at e
  split at e
  · cases e
    obtain ⟨x, y, z, rfl, r1, r2, r3⟩ := rs.three
    rw [r1.int, r2.int, r3.int] at r
    cases r with
    | cons q1 r =>
      cases r with
      | cons q2 r =>
        cases r with
        | cons q3 r =>
          cases r
          obtain ⟨t, rfl⟩ := q1
          obtain ⟨t', rfl⟩ := q2
          obtain ⟨t'', rfl⟩ := q3
          refine max_three_ints (I.ok.hd hc) fun h' tk k => ⟨_, H, I.kept k, ?_, res.1 _ rv_int⟩
          dsimp only
          split <;> split <;> exact ⟨_, by congr 1; omega⟩
  · cases e
theorem call_min3M (hc : X.calm = true) : CallR X (.builtin "min") (rDN X.K (gI3 fun i j k => min (min i j) k)) := by
  intro pins s σ H xs us Q I r ⟨F, P, ds, hd, rs, e, res⟩
  unfold gI3 at e
  split at e
  · cases e
    obtain ⟨x, y, z, rfl, r1, r2, r3⟩ := rs.three
    rw [r1.int, r2.int, r3.int] at r
    cases r with
    | cons q1 r =>
      cases r with
      | cons q2 r =>
        cases r with
        | cons q3 r =>
          cases r
          obtain ⟨t, rfl⟩ := q1
          obtain ⟨t', rfl⟩ := q2
          obtain ⟨t'', rfl⟩ := q3
          refine min_three_ints (I.ok.hd hc) fun h' tk k => ⟨_, H, I.kept k, ?_, res.1 _ rv_int⟩
          dsimp only
          split <;> split <;> exact ⟨_, by congr 1; omega⟩
  · cases e
/-! ### sums, all, any -/
theorem intsO_vd {h : Heap} : ∀ {ds : List D} {ns : List Int} {its : List Value}, intsO ds = some ns → Vds h ds its → ∀ (i : Nat) (v : Value), its[i]? = some v → ∃ t, v = .int (ns.getD i 0) t
  | [], ns, its, e, q, i, v, z => by
    simp only [Vds] at q; subst q; simp at z
  | .int n :: ds, ns, its, e, q, i, v, z => by
    simp only [Vds] at q
    obtain ⟨u, ur, rfl, qu, qr⟩ := q
    unfold intsO at e
    cases e2 : intsO ds with
    | none => rw [e2] at e; cases e
    | some ms =>
      rw [e2] at e; cases e
      cases i with
      | zero =>
        simp at z; subst z
        simp only [Vd] at qu
        obtain ⟨t, e⟩ := qu
        exact ⟨t, by simpa using e⟩
      | succ i =>
        have := intsO_vd e2 qr i v (by simpa using z)
        simpa using this
  | .non :: _, ns, its, e, q, i, v, z => by cases e
  | .bl _ :: _, ns, its, e, q, i, v, z => by cases e
  | .str _ :: _, ns, its, e, q, i, v, z => by cases e
  | .tup _ :: _, ns, its, e, q, i, v, z => by cases e
  | .lst _ :: _, ns, its, e, q, i, v, z => by cases e
  | .dic _ :: _, ns, its, e, q, i, v, z => by cases e
  | .pot :: _, ns, its, e, q, i, v, z => by cases e
  | .scr _ :: _, ns, its, e, q, i, v, z => by cases e
  | .rep _ :: _, ns, its, e, q, i, v, z => by cases e
theorem blsO_vd {h : Heap} : ∀ {ds : List D} {ns : List Bool} {its : List Value}, blsO ds = some ns → Vds h ds its → ∀ (i : Nat) (v : Value), its[i]? = some v → v = .bool (ns.getD i false)
  | [], ns, its, e, q, i, v, z => by
    simp only [Vds] at q; subst q; simp at z
  | .bl n :: ds, ns, its, e, q, i, v, z => by
    simp only [Vds] at q
    obtain ⟨u, ur, rfl, qu, qr⟩ := q
    unfold blsO at e
    cases e2 : blsO ds with
    | none => rw [e2] at e; cases e
    | some ms =>
      rw [e2] at e; cases e
      cases i with
      | zero =>
        simp at z; subst z
        simp only [Vd] at qu
        simpa using qu
      | succ i =>
        have := blsO_vd e2 qr i v (by simpa using z)
        simpa using this
  | .non :: _, ns, its, e, q, i, v, z => by cases e
  | .int _ :: _, ns, its, e, q, i, v, z => by cases e
  | .str _ :: _, ns, its, e, q, i, v, z => by cases e
  | .tup _ :: _, ns, its, e, q, i, v, z => by cases e
  | .lst _ :: _, ns, its, e, q, i, v, z => by cases e
  | .dic _ :: _, ns, its, e, q, i, v, z => by cases e
  | .pot :: _, ns, its, e, q, i, v, z => by cases e
  | .scr _ :: _, ns, its, e, q, i, v, z => by cases e
  | .rep _ :: _, ns, its, e, q, i, v, z => by cases e
theorem intsO_len : ∀ {ds : List D} {ns : List Int}, intsO ds = some ns → ds = ns.map .int
  | [], ns, e => by cases e; rfl
  | .int n :: ds, ns, e => by
    unfold intsO at e
    cases e2 : intsO ds with
    | none => rw [e2] at e; cases e
    | some ms => rw [e2] at e; cases e; rw [intsO_len e2]; rfl
  | .non :: _, ns, e => by cases e
  | .bl _ :: _, ns, e => by cases e
  | .str _ :: _, ns, e => by cases e
  | .tup _ :: _, ns, e => by cases e
  | .lst _ :: _, ns, e => by cases e
  | .dic _ :: _, ns, e => by cases e
  | .pot :: _, ns, e => by cases e
  | .scr _ :: _, ns, e => by cases e
  | .rep _ :: _, ns, e => by cases e
theorem blsO_len : ∀ {ds : List D} {ns : List Bool}, blsO ds = some ns → ds = ns.map .bl
  | [], ns, e => by cases e; rfl
  | .bl n :: ds, ns, e => by
    unfold blsO at e
    cases e2 : blsO ds with
    | none => rw [e2] at e; cases e
    | some ms => rw [e2] at e; cases e; rw [blsO_len e2]; rfl
  | .non :: _, ns, e => by cases e
  | .int _ :: _, ns, e => by cases e
  | .str _ :: _, ns, e => by cases e
  | .tup _ :: _, ns, e => by cases e
  | .lst _ :: _, ns, e => by cases e
  | .dic _ :: _, ns, e => by cases e
  | .pot :: _, ns, e => by cases e
  | .scr _ :: _, ns, e => by cases e
  | .rep _ :: _, ns, e => by cases e
@[simp] theorem intsO_map : ∀ ns : List Int, intsO (ns.map .int) = some ns
  | [] => rfl
  | n :: ns => by show (intsO (ns.map .int)).map (n :: ·) = _; rw [intsO_map ns]; rfl
@[simp] theorem blsO_map : ∀ ns : List Bool, blsO (ns.map .bl) = some ns
  | [] => rfl
  | n :: ns => by show (blsO (ns.map .bl)).map (n :: ·) = _; rw [blsO_map ns]; rfl
theorem preSum_get (ns : List Int) : ∀ k, preSum (fun i => ns.getD i 0) k = (ns.take k).sum
  | 0 => by simp [preSum]
  | k + 1 => by
    show preSum (fun i => ns.getD i 0) k + ns.getD k 0 = _
    rw [preSum_get ns k, List.take_add_one, List.sum_append]
    congr 1
    cases h : ns[k]? with
    | none => simp [List.getD_eq_getElem?_getD, h]
    | some n => simp [List.getD_eq_getElem?_getD, h]
/-- a list's or a tuple's own iterator -/
theorem iter_seqM {A : Around} {E : Value → Shared → Prop} {s : Shared} {prog : Program} {w : World} {a : Addr} {its : List Value} {Q : Value → Shared → Prop} (hh : A.handled = none) (hl : s.heap.IsList a its.toArray ∨ IsTup s.heap a its.toArray)
    (h : ∀ (s₂ : Shared) (o : Obj) (St : Nat → Heap → Prop), s₂ = { s with heap := s.heap.push o } → Walks prog w A s.heap.objs.size [s.heap.objs.size, a] [s.heap.objs.size] its.length (fun i v => its[i]? = some v) St →
      St 0 s₂.heap → (∀ b ∈ [s.heap.objs.size, a], b < s₂.heap.objs.size) → (∀ b o, s.heap.get? b = some o → b ∉ [s.heap.objs.size]) → (∀ b o, s.heap.get? b = some o → s₂.heap.get? b = some o) → Q (.ref s.heap.objs.size) s₂) :
    wpAny (model prog w) A (pyIter (.ref a)) Q E s := by
  have hlt : a < s.heap.objs.size := by rcases hl with hl | hl <;> (obtain ⟨_, e, _⟩ := hl; exact Heap.lt_size e)
  have c1 : ∀ o : Obj, ∀ b ∈ [s.heap.objs.size, a], b < (s.heap.push o).objs.size := fun o b hb => by
    rw [Heap.size_push]
    rcases List.mem_cons.mp hb with rfl | hb
    · exact Nat.lt_succ_self _
    · rcases List.mem_cons.mp hb with rfl | hb
      · exact Nat.lt_succ_of_lt hlt
      · cases hb
  have c2 : ∀ b o, s.heap.get? b = some o → b ∉ [s.heap.objs.size] := fun b o e hb => absurd (Heap.lt_size e) ((List.mem_singleton.mp hb) ▸ Nat.lt_irrefl _)
  rcases hl with hl | hl
  · have W := (Walks.list (prog := prog) (w := w) (A := A) hh s.heap.objs.size a (Nat.ne_of_lt hlt) its.toArray)
    simp only [List.size_toArray, List.getElem?_toArray] at W
    exact wpAny_pyIter_list hl (h _ _ _ rfl W ⟨⟨_, Heap.get?_push_size _ rfl, rfl, rfl⟩, hl.push _⟩ (c1 _) c2 fun b o e => Heap.get?_push_of_some _ e)
  · have hl' : s.heap.IsTuple a its.toArray := hl
    have W := (Walks.tuple (prog := prog) (w := w) (A := A) hh s.heap.objs.size a (Nat.ne_of_lt hlt) its.toArray)
    simp only [List.size_toArray, List.getElem?_toArray] at W
    exact wpAny_pyIter_tuple hl' (h _ _ _ rfl W ⟨⟨_, Heap.get?_push_size _ rfl, rfl, rfl⟩, hl'.push _⟩ (c1 _) c2 fun b o e => Heap.get?_push_of_some _ e)
theorem RC.its {pins : List (Addr × Obj)} {σ : L2.St} {H : Hp} {s : Shared} {F P : Addr → Prop} {d : D} {l : List D} {x : V} {us : List Value} (I : Inv X pins σ H s) (r : RC X.K F P H d x) (e : seqD d = some l) (rv : Vals [x] us) :
    ∃ a its, us = [.ref a] ∧ (s.heap.IsList a its.toArray ∨ IsTup s.heap a its.toArray) ∧ Vds s.heap l its := by
  obtain ⟨a, vs, rfl, rs, ha⟩ := r.seq e
  rw [Vals.ref1 rv]
  rcases ha with ⟨ha, _⟩ | ⟨ha, _⟩
  · obtain ⟨its, rv, p, _⟩ := I.tuple (.of ha)
    exact ⟨a, its, rfl, .inr p, RVs.vd I l vs its rs rv⟩
  · obtain ⟨its, rv, p, _⟩ := I.list (.of ha)
    exact ⟨a, its, rfl, .inl p.isList, RVs.vd I l vs its rs rv⟩
theorem old_kept' {s : Shared} {o : Obj} {h' : Heap} (hk : ∀ b u, b ∉ [s.heap.objs.size] → (s.heap.push o).get? b = some u → h'.get? b = some u) : ∀ b u, s.heap.get? b = some u → h'.get? b = some u :=
  fun b u e => hk b u (fun hb => absurd (Heap.lt_size e) ((List.mem_singleton.mp hb) ▸ Nat.lt_irrefl _)) (Heap.get?_push_of_some _ e)
theorem call_sumM (hc : X.calm = true) : CallR X (.builtin "sum") (rDN X.K (g1 sumD)) := cr_g1 fun pins s σ H x us Q F P d hd I r r1 e res => by
  unfold sumD at e
  split at e
  · rename_i l el
    cases e2 : intsO l with
    | none => rw [e2] at e; cases e
    | some ns =>
      rw [e2] at e; cases e
      obtain ⟨a, its, rfl, hl, vd⟩ := r1.its I el r
      refine call_sum_walkG (iter_seqM (A := X.A.in1) (I.ok.hd hc) hl fun s₂ o St e W st hfp hw hk => ?_)
      subst e
      refine ⟨_, _, _, _, _, _, fun i => ns.getD i 0, rfl, W, st, hfp, fun i v z => intsO_vd e2 vd i v z, fun h' tk t' hk' => ?_⟩
      refine ⟨.int ns.sum, H, I.kept (old_kept' hk'), ⟨t', ?_⟩, res.1 _ rv_int⟩
      rw [preSum_get, List.take_of_length_le (by rw [vd.length, intsO_len e2, List.length_map]; exact Nat.le_refl _)]
  · cases e
theorem truthIn_bls {A : Around} {prog : Program} {w : World} {h : Heap} {ds : List D} {ns : List Bool} {its : List Value} (e : blsO ds = some ns) (q : Vds h ds its) : TruthIn prog w A h (fun i v => its[i]? = some v) (fun i => ns.getD i false) := fun i v s' Q E hk hi hq => by
  have := blsO_vd e q i v hi
  subst this
  exact wpAny_truthy_bool (hq s'.toks (Nat.le_refl _))
theorem moved_kept {s s' : Shared} {o : Obj} (m : Moved [s.heap.objs.size] (fun a b => b = a) { s with heap := s.heap.push o } s') : ∃ h' tk, s' = { s with heap := h', toks := tk } ∧ ∀ b u, s.heap.get? b = some u → h'.get? b = some u :=
  PySem.W.moved_old (o := o) rfl rfl m
theorem call_allM (hc : X.calm = true) : CallR X (.builtin "all") (rDN X.K (g1 allD)) := cr_g1 fun pins s σ H x us Q F P d hd I r r1 e res => by
  unfold allD at e
  split at e
  · rename_i l el
    cases e2 : blsO l with
    | none => rw [e2] at e; cases e
    | some ns =>
      rw [e2] at e; cases e
      obtain ⟨a, its, rfl, hl, vd⟩ := r1.its I el r
      refine call_all_walkH (iter_seqM (A := X.A.in1) (I.ok.hd hc) hl fun s₂ o St e W st hfp hw hk => ?_)
      subst e
      refine ⟨_, _, _, _, _, _, _, s.heap, _, rfl, W.toS, st, hw, hk, truthIn_bls e2 vd, fun s' m => ?_⟩
      obtain ⟨h', tk, rfl, hk'⟩ := moved_kept m
      refine ⟨.bl (ns.all id), H, I.kept hk', ?_, res.1 _ rv_bl⟩
      have : its.length = ns.length := by rw [vd.length, blsO_len e2, List.length_map]
      rw [this]
      show Value.bool _ = Value.bool _
      rw [← PySem.W.range_all id false ns]
      rfl
  · cases e
theorem call_anyM (hc : X.calm = true) : CallR X (.builtin "any") (rDN X.K (g1 anyD)) := cr_g1 fun pins s σ H x us Q F P d hd I r r1 e res => by
  unfold anyD at e
  split at e
  · rename_i l el
    cases e2 : blsO l with
    | none => rw [e2] at e; cases e
    | some ns =>
      rw [e2] at e; cases e
      obtain ⟨a, its, rfl, hl, vd⟩ := r1.its I el r
      refine call_any_walkH (iter_seqM (A := X.A.in1) (I.ok.hd hc) hl fun s₂ o St e W st hfp hw hk => ?_)
      subst e
      refine ⟨_, _, _, _, _, _, _, s.heap, _, rfl, W.toS, st, hw, hk, truthIn_bls e2 vd, fun s' m => ?_⟩
      obtain ⟨h', tk, rfl, hk'⟩ := moved_kept m
      refine ⟨.bl (ns.any id), H, I.kept hk', ?_, res.1 _ rv_bl⟩
      have : its.length = ns.length := by rw [vd.length, blsO_len e2, List.length_map]
      rw [this]
      show Value.bool _ = Value.bool _
      rw [← PySem.W.range_any id false ns]
      rfl
  · cases e
end
end Mi
set_option Elab.async false
set_option linter.all false
set_option maxRecDepth 100000
set_option maxHeartbeats 2000000
namespace Mi
open PySem PySem.Spec PyProof.Rows L2

/-! ### order by codes -/
mutual
def enc : D → List Int
  | .non => [0]
  | .bl b => [if b then 1 else 0]
  | .int i => [i]
  | .str x => encS x
  | .tup l => encs l
  | .lst l => encs l
  | _ => []
def encs : List D → List Int
  | [] => [0]
  | d :: ds => 1 :: (enc d ++ encs ds)
def encS : List Nat → List Int
  | [] => [0]
  | c :: cs => 1 :: (c : Int) :: encS cs
end
/-- one row before another -/
def rowB : List Int → List Int → Bool
  | [], [] => false
  | [], _ :: _ => true
  | _ :: _, [] => false
  | x :: xs, y :: ys => if x = y then rowB xs ys else decide (x < y)
theorem rowB_irrefl : ∀ p, rowB p p = false
  | [] => rfl
  | x :: p => by simp [rowB, rowB_irrefl p]
theorem rowB_asym : ∀ p q, rowB p q = true → rowB q p = false
  | [], [], h => by cases h
  | [], _ :: _, h => rfl
  | _ :: _, [], h => by cases h
  | x :: xs, y :: ys, h => by
    simp only [rowB] at h ⊢
    by_cases e : x = y
    · rw [if_pos e] at h
      rw [if_pos e.symm]
      exact rowB_asym xs ys h
    · rw [if_neg e] at h
      rw [if_neg (Ne.symm e)]
      have := of_decide_eq_true h
      exact decide_eq_false (by omega)
theorem rowB_tr : ∀ p q r, rowB q p = false → rowB r q = false → rowB r p = false
  | [], q, r, h1, h2 => by
    cases r with
    | nil => rfl
    | cons z r => rfl
  | x :: xs, [], r, h1, h2 => by cases h1
  | x :: xs, y :: ys, [], h1, h2 => by cases h2
  | x :: xs, y :: ys, z :: zs, h1, h2 => by
    simp only [rowB] at h1 h2 ⊢
    by_cases e : y = x
    · subst e
      rw [if_pos rfl] at h1
      by_cases e2 : z = y
      · subst e2
        rw [if_pos rfl] at h2 ⊢
        exact rowB_tr xs ys zs h1 h2
      · rw [if_neg e2] at h2 ⊢
        exact h2
    · rw [if_neg e] at h1
      have g1 := of_decide_eq_false h1
      by_cases e2 : z = y
      · subst e2
        rw [if_neg e]; exact h1
      · rw [if_neg e2] at h2
        have g2 := of_decide_eq_false h2
        rw [if_neg (by omega)]
        exact decide_eq_false (by omega)
theorem rowB_pre : ∀ (p q r : List Int), rowB (p ++ q) (p ++ r) = rowB q r
  | [], q, r => rfl
  | x :: p, q, r => by
    show (if x = x then rowB (p ++ q) (p ++ r) else _) = _
    rw [if_pos rfl, rowB_pre p q r]
/-- they part at a place within both -/
def Part (p q : List Int) (c : Bool) : Prop := ∃ (u : List Int) (a b : Int) (r r' : List Int), p = u ++ a :: r ∧ q = u ++ b :: r' ∧ a ≠ b ∧ c = decide (a < b)
theorem Part.row {p q : List Int} {c : Bool} (h : Part p q c) : rowB p q = c := by
  obtain ⟨u, a, b, r, r', rfl, rfl, ne, rfl⟩ := h
  rw [rowB_pre]
  show (if a = b then _ else decide (a < b)) = _
  rw [if_neg ne]
theorem Part.app {p q : List Int} {c : Bool} (h : Part p q c) (v s t : List Int) : Part (v ++ (p ++ s)) (v ++ (q ++ t)) c := by
  obtain ⟨u, a, b, r, r', rfl, rfl, ne, rfl⟩ := h
  exact ⟨v ++ u, a, b, r ++ s, r' ++ t, by simp, by simp, ne, rfl⟩
theorem Part.pre {p q : List Int} {c : Bool} (h : Part p q c) (v : List Int) : Part (v ++ p) (v ++ q) c := by
  have := h.app v [] []
  simpa using this
theorem encS_part : ∀ (x y : List Nat), x ≠ y → Part (encS x) (encS y) (decide (x < y))
  | [], [], h => absurd rfl h
  | [], c :: cs, h => ⟨[], 0, 1, [], (c : Int) :: encS cs, rfl, by simp [encS], by omega, by simp⟩
  | c :: cs, [], h => ⟨[], 1, 0, (c : Int) :: encS cs, [], by simp [encS], rfl, by omega, by simp⟩
  | c :: cs, b :: bs, h => by
    by_cases e : c = b
    · subst e
      have h' : cs ≠ bs := fun z => h (by rw [z])
      have := (encS_part cs bs h').pre [1, (c : Int)]
      have e2 : decide ((c :: cs) < (c :: bs)) = decide (cs < bs) := by
        congr 1
        simp [List.cons_lt_cons_iff]
      rw [e2]
      simpa [encS] using this
    · refine ⟨[1], c, b, encS cs, encS bs, by simp [encS], by simp [encS], by omega, ?_⟩
      congr 1
      simp [List.cons_lt_cons_iff, e]
theorem eqL_enc {n : Nat} (ih : ∀ d e, eqDn n d e = some true → enc d = enc e) : ∀ {xs ys : List D}, eqL (eqDn n) xs ys = some true → encs xs = encs ys
  | [], [], _ => rfl
  | [], _ :: _, h => by cases h
  | _ :: _, [], h => by cases h
  | x :: xs, y :: ys, h => by
    simp only [eqL] at h
    split at h
    · rename_i b r e1 e2
      have h' : (b && r) = true := Option.some.inj h
      simp only [Bool.and_eq_true] at h'
      obtain ⟨rfl, rfl⟩ := h'
      simp only [encs]
      rw [ih x y e1, eqL_enc ih e2]
    · cases h
theorem eqDn_enc : ∀ (n : Nat) (d e : D), eqDn n d e = some true → enc d = enc e := by
  intro n
  induction n with
  | zero => intro d e q; cases d <;> cases e <;> cases q
  | succ n ih =>
    intro d e q
    cases d <;> cases e <;> simp only [eqDn] at q
    all_goals first
      | (cases q; done)
      | skip
    all_goals simp only [enc]
    case bl.bl a b => have := Option.some.inj q; simp at this; rw [this]
    case bl.int a j => have := Option.some.inj q; simp at this; rw [this]
    case int.bl i b => have := Option.some.inj q; simp at this; rw [this]
    case int.int i j => have := Option.some.inj q; simp at this; rw [this]
    case str.str x y => have := Option.some.inj q; simp at this; rw [this]
    case tup.tup xs ys => exact eqL_enc ih q
    case lst.lst xs ys =>
      split at q
      · exact eqL_enc ih q
      · cases q
theorem ltL_enc {n : Nat} (ih : ∀ d e c, ltDn n d e = some c → (eqDn n d e = some true ∧ c = false ∧ enc d = enc e) ∨ (eqDn n d e = some false ∧ Part (enc d) (enc e) c)) : ∀ {xs ys : List D} {c : Bool}, ltL (eqDn n) (ltDn n) xs ys = some c →
    (eqL (eqDn n) xs ys = some true ∧ c = false ∧ encs xs = encs ys) ∨ (eqL (eqDn n) xs ys = some false ∧ Part (encs xs) (encs ys) c)
  | [], [], c, h => by cases h; exact .inl ⟨rfl, rfl, rfl⟩
  | [], y :: ys, c, h => by cases h; exact .inr ⟨rfl, [], 0, 1, [], enc y ++ encs ys, rfl, by simp [encs], by omega, by simp⟩
  | x :: xs, [], c, h => by cases h; exact .inr ⟨rfl, [], 1, 0, enc x ++ encs xs, [], by simp [encs], rfl, by omega, by simp⟩
  | x :: xs, y :: ys, c, h => by
    simp only [ltL] at h
    split at h
    · rename_i r e1 e2
      cases h
      simp only [encs, eqL, e1]
      rw [eqDn_enc n x y e1]
      rcases ltL_enc ih e2 with ⟨q0, q2, q1⟩ | ⟨q0, q⟩
      · rw [q0]; exact .inl ⟨rfl, q2, by rw [q1]⟩
      · right
        rw [q0]
        refine ⟨rfl, ?_⟩
        have := q.pre (1 :: enc y)
        simpa using this
    · rename_i r e1 e2
      right
      simp only [encs, eqL, e1]
      have h0 : ∃ z, eqL (eqDn n) xs ys = some z := by
        rcases ltL_enc ih e2 with ⟨q0, _⟩ | ⟨q0, _⟩ <;> exact ⟨_, q0⟩
      obtain ⟨z, hz⟩ := h0
      rw [hz]
      rcases ih x y c h with ⟨q0, _⟩ | ⟨_, q⟩
      · rw [e1] at q0; cases q0
      · have := q.app [1] (encs xs) (encs ys)
        exact ⟨rfl, by simpa using this⟩
    · cases h
theorem ltDn_enc : ∀ (n : Nat) (d e : D) (c : Bool), ltDn n d e = some c → (eqDn n d e = some true ∧ c = false ∧ enc d = enc e) ∨ (eqDn n d e = some false ∧ Part (enc d) (enc e) c) := by
  intro n
  induction n with
  | zero => intro d e c q; cases d <;> cases e <;> cases q
  | succ n ih =>
    intro d e c q
    cases d <;> cases e <;> simp only [ltDn] at q
    all_goals first
      | (cases q; done)
      | skip
    all_goals simp only [enc, eqDn]
    case int.int i j =>
      have := Option.some.inj q
      by_cases h : i = j
      · subst h
        exact .inl ⟨by simp, by rw [← this]; exact decide_eq_false (Int.lt_irrefl _), rfl⟩
      · exact .inr ⟨by simp [h], [], i, j, [], [], rfl, rfl, h, this.symm⟩
    case str.str x y =>
      have := Option.some.inj q
      by_cases h : x = y
      · subst h
        exact .inl ⟨by simp, by rw [← this]; exact decide_eq_false (by simp [List.lt_irrefl]), rfl⟩
      · exact .inr ⟨by simp [h], by rw [← this]; exact encS_part x y h⟩
    case tup.tup xs ys => exact ltL_enc ih q
theorem ltDn_row {n : Nat} {d e : D} {c : Bool} (h : ltDn n d e = some c) : rowB (enc d) (enc e) = c := by
  rcases ltDn_enc n d e c h with ⟨_, q, r⟩ | ⟨_, q⟩
  · rw [r, q]; exact rowB_irrefl _
  · exact q.row

/-! ### the sort's own comparisons -/
section
variable {prog : Program} {w : World} {A : Around} {E : Value → Shared → Prop} {s : Shared}
theorem kGen_eq (x y : Value) : keyLt' general' x y = oneLt' false x y := rfl
theorem oneLtF {n : Nat} {d e : D} {u v : Value} {c : Bool} {Q : Bool → Shared → Prop} (vd : Vd s.heap d u) (ve : Vd s.heap e v) (h : ltDn n d e = some c) (hu : A.units + n < cLine) (q : Q c s) : wpAny (model prog w) A (oneLt' false u v) Q E s := by
  rw [oneLt'_eq]
  simp only [Bool.false_eq_true, if_false]
  refine wpAny_bind (ltAt_of n d e c u v vd ve h A hu prog w E _ ?_)
  exact wpAny_truthy_bool q
theorem oneLtT {n : Nat} {d e : D} {u v : Value} {c : Bool} {Q : Bool → Shared → Prop} (vd : Vd s.heap d u) (ve : Vd s.heap e v) (h : ltDn n d e = some c) (hu : A.units + n < cLine) (q : Q c s) : wpAny (model prog w) A (oneLt' true u v) Q E s := by
  cases n with
  | zero => cases d <;> cases e <;> cases h
  | succ n =>
    cases d <;> cases e <;> simp only [ltDn] at h
    all_goals first
      | (cases h; done)
      | skip
    all_goals simp only [Vd] at vd ve
    case int.int i j =>
      obtain ⟨t, rfl⟩ := vd
      obtain ⟨t', rfl⟩ := ve
      cases h
      exact oneLt_int q
    case str.str x y =>
      obtain ⟨t, rfl⟩ := vd
      obtain ⟨t', rfl⟩ := ve
      cases h
      exact oneLt_str (by simpa using q)
    case tup.tup ds es =>
      obtain ⟨a, its, rfl, t, qs⟩ := vd
      obtain ⟨a', its', rfl, t', qs'⟩ := ve
      obtain ⟨h1, h2⟩ := ltL_all h
      have key : ∀ j (g1 : j < its.length) (g2 : j < its'.length), ∃ x y, ds[j]? = some x ∧ es[j]? = some y ∧ Vd s.heap x its[j] ∧ Vd s.heap y its'[j] := fun j g1 g2 => by
        have l1 : ds[j]? = some (ds[j]'(by rw [← qs.length]; exact g1)) := List.getElem?_eq_getElem _
        have l2 : es[j]? = some (es[j]'(by rw [← qs'.length]; exact g2)) := List.getElem?_eq_getElem _
        exact ⟨_, _, l1, l2, qs.get l1 (List.getElem?_eq_getElem g1), qs'.get l2 (List.getElem?_eq_getElem g2)⟩
      obtain ⟨⟨cls, dd, data, sl⟩, ho, hc, k, hd⟩ := id t
      obtain ⟨⟨cls2, dd2, data2, sl2⟩, ho2, hc2, k2, hd2⟩ := id t'
      simp only at hc hd hc2 hd2
      subst hc hd hc2 hd2
      rw [oneLt'_eq]
      simp only [if_true]
      refine wpAny_bind (wpAny_cRoomFor (by omega) ?_)
      refine wpAny_bind (wpAny_callSpecialIfBound?_slot (T := "tuple") ⟨_, ho, rfl⟩ PySem.F.slot_tuple_lt (call_meets PySem.F.slot_tuple_lt ⟨_, ho, rfl⟩ PySem.F.entry_tuple_lt (PySem.F.args_tuple_lt_2 _ _)
        (Ob.tuple_ltAt a a' its.toArray its'.toArray k k2 dd dd2 sl sl2 (eqJ (eqDn n) ds es) (eqJ (ltDn n) ds es)) ⟨ho, ho2, fun j g1 g2 => ?_, fun j g1 g2 hf => ?_, ?_⟩))
      · obtain ⟨x, y, l1, l2, v1, v2⟩ := key j (by simpa using g1) (by simpa using g2)
        have := (eqAt_of n _ _ _ _ _ v1 v2 (h2 j _ _ l1 l2).1 A.in1 (by show A.units + 1 + n < cLine; omega)).2
        simpa using this
      · obtain ⟨x, y, l1, l2, v1, v2⟩ := key j (by simpa using g1) (by simpa using g2)
        have := ltAt_of n _ _ _ _ _ v1 v2 ((h2 j _ _ l1 l2).2 hf) A.in1 (by show A.units + 1 + n < cLine; omega)
        simpa using this
      · have e1 : its.toArray.size = ds.length := by simp [qs.length]
        have e2 : its'.toArray.size = es.length := by simp [qs'.length]
        rw [e1, e2, ← h1]
        exact wpAny_truthy_bool q
theorem oneLtB {n : Nat} {d e : D} {u v : Value} {c b : Bool} {Q : Bool → Shared → Prop} (vd : Vd s.heap d u) (ve : Vd s.heap e v) (h : ltDn n d e = some c) (hu : A.units + n < cLine) (q : Q c s) : wpAny (model prog w) A (oneLt' b u v) Q E s := by
  cases b with
  | true => exact oneLtT vd ve h hu q
  | false => exact oneLtF vd ve h hu q
theorem katLexM {n : Nat} {b : Bool} {Q : Bool → Shared → Prop} (hu : A.units + n < cLine) : ∀ {ds es : List D} {its its' : List Value} {c : Bool} (i : Nat), Vds s.heap ds its → Vds s.heap es its' → ltL (eqDn n) (ltDn n) ds es = some c → Q c s →
    PySem.W.KatLex prog w A b (decide (ds.length < es.length)) Q (its.zip its') i s
  | [], es, its, its', c, i, v, v', h, q => by
    simp only [Vds] at v; subst v
    cases es with
    | nil => cases h; exact q
    | cons y ys => cases h; exact PySem.W.kat_nil (by simpa using q)
  | x :: xs, [], its, its', c, i, v, v', h, q => by
    simp only [Vds] at v'; subst v'
    rw [List.zip_nil_right]
    cases h
    exact PySem.W.kat_nil (by simpa using q)
  | x :: xs, y :: ys, its, its', c, i, v, v', h, q => by
    simp only [Vds] at v v'
    obtain ⟨u, ur, rfl, vx, vr⟩ := v
    obtain ⟨u', ur', rfl, vx', vr'⟩ := v'
    rw [List.zip_cons_cons]
    simp only [ltL] at h
    split at h
    · rename_i r e1 e2
      cases h
      refine PySem.W.kat_cons ((eqAt_of n x y true u u' vx vx' e1 A hu).2 prog w _ _ ?_)
      refine PySem.W.kat_yes ?_
      have := katLexM hu (b := b) (i + 1) vr vr' e2 q
      simpa using this
    · rename_i r e1 e2
      refine PySem.W.kat_cons ((eqAt_of n x y false u u' vx vx' e1 A hu).2 prog w _ _ ?_)
      exact PySem.W.kat_no (oneLtB vx vx' h hu q)
    · cases h
theorem keyLtM {n : Nat} {d e : D} {u v : Value} {c : Bool} {κ : SortKind} {Q : Bool → Shared → Prop} (hk : κ = oneType' ∨ κ = general' ∨ ((κ = tuples' true ∨ κ = tuples' false) ∧ (∃ l, d = .tup l) ∧ ∃ l, e = .tup l))
    (vd : Vd s.heap d u) (ve : Vd s.heap e v) (h : ltDn n d e = some c) (hu : A.units + n < cLine) (q : Q c s) : wpAny (model prog w) A (keyLt' κ u v) Q E s := by
  rcases hk with rfl | rfl | ⟨hb, ⟨l, rfl⟩, l', rfl⟩
  · rw [keyLt'_oneType]; exact oneLtT vd ve h hu q
  · rw [kGen_eq]; exact oneLtF vd ve h hu q
  · cases n with
    | zero => cases h
    | succ n =>
      simp only [ltDn] at h
      simp only [Vd] at vd ve
      obtain ⟨a, its, rfl, ⟨o, ho, hc, k, hd⟩, qs⟩ := vd
      obtain ⟨a', its', rfl, ⟨o', ho', hc', k', hd'⟩, qs'⟩ := ve
      rcases hb with rfl | rfl
      · refine PySem.W.kat_lt ho hd ho' hd' ?_
        have := katLexM (prog := prog) (w := w) (A := A) (b := true) (Q := Q) (by omega) 0 qs qs' h q
        simpa [qs.length, qs'.length] using this
      · refine PySem.W.kat_lt ho hd ho' hd' ?_
        have := katLexM (prog := prog) (w := w) (A := A) (b := false) (Q := Q) (by omega) 0 qs qs' h q
        simpa [qs.length, qs'.length] using this
end
end Mi
set_option Elab.async false
set_option linter.all false
set_option maxRecDepth 100000
set_option maxHeartbeats 2000000
namespace MiSort
open PySem PyProof.Rows Srt SrtO
section
variable {prog : Program} {w : World} {A : Around} {E : Value → Shared → Prop} {s : Shared}
/-- a list or a tuple of so many values -/
def SeqIs (h : Heap) (l : Addr) (vs : List Value) : Prop := ∃ o n, h.get? l = some o ∧ (o.cls = .type "list" ∨ o.cls = .type "tuple") ∧ o.data = .seq vs.toArray n
theorem collect_seq {l : Addr} {vs : List Value} {Q : List Value → Shared → Prop} (hl : SeqIs s.heap l vs)
    (h : Q vs { s with heap := (s.heap.push (seqObj "list" #[] 0)).update s.heap.objs.size (Obj.mapSeq (· ++ vs.toArray)) }) (hsz : vs.length ≤ sizeLine) :
    wpAny (model prog w) A (collect (.ref l)) Q E s := by
  obtain ⟨o, n, ho, hc, hd⟩ := hl
  unfold collect
  refine wpAny_bind (wpAny_runValue (codeAny_builtin entry_proto_collect' ?_))
  show wpAny _ _ (do again (.builtin "list.__iadd__" ⟨[← newList [], .ref l], []⟩)) _ _ s
  refine wpAny_bind (wpAny_newList (wpAny_pure ⟨Code.quiet_builtin _ (by decide +kernel), codeAny_builtin entry_list_iadd' ?_⟩))
  show wpAny _ _ (Builtin.List.listExtendWith (.ref s.heap.objs.size) (.ref l) (.ref s.heap.objs.size)) _ _ { s with heap := s.heap.push (seqObj "list" #[] 0) }
  unfold Builtin.List.listExtendWith
  have ho' : (s.heap.push (seqObj "list" #[] 0)).get? l = some o := Heap.get?_push_of_some _ ho
  rcases hc with hc | hc
  · refine wpAny_bind (wpAny_typeOf (T := "list") ⟨o, ho', hc⟩ ?_)
    have ht : (Value.type "list" == Value.type "list") = true := by rfl
    rw [if_pos (by rw [ht]; simp)]
    refine wpAny_bind (listItems_at ho' hd ?_)
    refine wpAny_bind (listItems_at (xs := #[]) (n := 0) (Heap.get?_push_size _ rfl) rfl ?_)
    rw [if_neg (by simp)]
    refine wpAny_bind (listUpdate_at (xs := #[]) (n := 0) (Heap.get?_push_size _ rfl) rfl ?_ (Nat.zero_le _) (by show (#[] ++ vs.toArray).size ≤ sizeLine + 1; simp only [Array.size_append, List.size_toArray, List.length_nil]; omega))
    refine wpAny_pure ?_
    show wpAny (model prog w) A (do
        let o ← load s.heap.objs.size
        match o.data with
        | .seq xs _ => pure xs.toList
        | _ => unsupported "internal:collect") Q E { s with heap := (s.heap.push (seqObj "list" #[] 0)).update s.heap.objs.size (Obj.mapSeq (· ++ vs.toArray)) }
    refine wpAny_bind (wpAny_load (get?_update_seq (Heap.get?_push_size _ rfl) _) ?_)
    show wpAny _ _ (pure ((#[] : Array Value) ++ vs.toArray).toList) Q E _
    rw [show ((#[] : Array Value) ++ vs.toArray).toList = vs by simp]
    exact wpAny_pure h
  · refine wpAny_bind (wpAny_typeOf (T := "tuple") ⟨o, ho', hc⟩ ?_)
    have ht : (Value.type "tuple" == Value.type "tuple") = true := by rfl
    rw [if_pos (by rw [ht]; simp)]
    refine wpAny_bind (listItems_at ho' hd ?_)
    refine wpAny_bind (listItems_at (xs := #[]) (n := 0) (Heap.get?_push_size _ rfl) rfl ?_)
    rw [if_neg (by simp)]
    refine wpAny_bind (listUpdate_at (xs := #[]) (n := 0) (Heap.get?_push_size _ rfl) rfl ?_ (Nat.zero_le _) (by show (#[] ++ vs.toArray).size ≤ sizeLine + 1; simp only [Array.size_append, List.size_toArray, List.length_nil]; omega))
    refine wpAny_pure ?_
    show wpAny (model prog w) A (do
        let o ← load s.heap.objs.size
        match o.data with
        | .seq xs _ => pure xs.toList
        | _ => unsupported "internal:collect") Q E { s with heap := (s.heap.push (seqObj "list" #[] 0)).update s.heap.objs.size (Obj.mapSeq (· ++ vs.toArray)) }
    refine wpAny_bind (wpAny_load (get?_update_seq (Heap.get?_push_size _ rfl) _) ?_)
    show wpAny _ _ (pure ((#[] : Array Value) ++ vs.toArray).toList) Q E _
    rw [show ((#[] : Array Value) ++ vs.toArray).toList = vs by simp]
    exact wpAny_pure h
theorem sorted_seq {l : Addr} {vs : List Value} {ltv : Value → Value → Bool} {Q : Value → Shared → Prop} (O : Swo ltv) (hl : SeqIs s.heap l vs) (hz : vs.length ≤ sizeLine)
    (hS : 2 ≤ vs.length → ∀ (h₁ : Heap) (a : Addr), h₁.get? a = some (seqObj "list" vs.toArray 0) → (∀ b o, s.heap.get? b = some o → b ≠ a ∧ h₁.get? b = some o) → SortableO prog w A.in1.in1 { s with heap := h₁ } a vs ltv)
    (h : ∀ out : List Value, Srtd ltv out → Stb ltv out vs → Q (.ref (s.heap.objs.size + 1)) { s with heap := sortedAll s.heap vs out.toArray }) :
    wpAny (model prog w) A (call (.builtin "sorted") [.ref l]) Q E s := by
  refine Calls.call_function_entry kind_sorted plain_sorted entry_sorted (args_sorted1 _) ?_
  unfold Builtin.«sorted»
  refine wpAny_bind (m := checkCount "sorted" 1 1 _) (wpAny_pure ?_)
  refine wpAny_bind (collect_seq hl ?_ hz)
  refine wpAny_bind (wpAny_newList ?_ hz)
  have hsz : ((s.heap.push (seqObj "list" #[] 0)).update s.heap.objs.size (Obj.mapSeq (· ++ vs.toArray))).objs.size = s.heap.objs.size + 1 := by
    rw [Heap.size_update, size_push']
  have hoL : (((s.heap.push (seqObj "list" #[] 0)).update s.heap.objs.size (Obj.mapSeq (· ++ vs.toArray))).push (seqObj "list" vs.toArray 0)).get? (s.heap.objs.size + 1) = some (seqObj "list" vs.toArray 0) := by
    rw [← hsz]; exact Heap.get?_push_size _ rfl
  have keep : ∀ b o, s.heap.get? b = some o → b ≠ s.heap.objs.size + 1 ∧ (((s.heap.push (seqObj "list" #[] 0)).update s.heap.objs.size (Obj.mapSeq (· ++ vs.toArray))).push (seqObj "list" vs.toArray 0)).get? b = some o := fun b o q => by
    have hlt : b < s.heap.objs.size := Heap.lt_size q
    refine ⟨Nat.ne_of_lt (Nat.lt_succ_of_lt hlt), Heap.get?_push_of_some _ ?_⟩
    rw [Heap.get?_update_ne _ _ _ _ (Nat.ne_of_lt hlt)]
    exact Heap.get?_push_of_some _ q
  show wpAny _ _ _ _ _ { s with heap := ((s.heap.push (seqObj "list" #[] 0)).update s.heap.objs.size (Obj.mapSeq (· ++ vs.toArray))).push (seqObj "list" vs.toArray 0) }
  rw [hsz]
  refine wpAny_bind (wpAny_holding (wpAny_call_entry slot_list_sort ⟨_, hoL, rfl⟩ entry_list_sort (list_sort_ord O hoL hz (fun h2 => hS h2 _ _ hoL keep) fun out hs hb => ⟨_, rfl, ?_⟩) (args_list_sort _)))
  exact wpAny_pure ⟨_, rfl, h out hs hb⟩
end
end MiSort
set_option Elab.async false
set_option linter.all false
set_option maxRecDepth 100000
set_option maxHeartbeats 2000000
namespace Mi
open PySem PySem.Spec PyProof.Rows L2

section
variable {h h' : Heap} (k : ∀ b o, h.get? b = some o → h'.get? b = some o)
include k
mutual
theorem Vd.keep : ∀ (d : D) (u : Value), Vd h d u → Vd h' d u
  | .non, u, q => by simp only [Vd] at q ⊢; exact q
  | .bl b, u, q => by simp only [Vd] at q ⊢; exact q
  | .int i, u, q => by simp only [Vd] at q ⊢; exact q
  | .str x, u, q => by simp only [Vd] at q ⊢; exact q
  | .tup ds, u, q => by
    simp only [Vd] at q ⊢
    obtain ⟨a, its, e, ⟨o, ho, r⟩, qs⟩ := q
    exact ⟨a, its, e, ⟨o, k _ _ ho, r⟩, Vds.keep ds its qs⟩
  | .lst ds, u, q => by
    simp only [Vd] at q ⊢
    obtain ⟨a, its, e, ⟨o, ho, r⟩, qs⟩ := q
    exact ⟨a, its, e, ⟨o, k _ _ ho, r⟩, Vds.keep ds its qs⟩
  | .dic _, u, q => by simp only [Vd]
  | .pot, u, q => by simp only [Vd]
  | .scr _, u, q => by simp only [Vd]
  | .rep _, u, q => by simp only [Vd]
theorem Vds.keep : ∀ (ds : List D) (us : List Value), Vds h ds us → Vds h' ds us
  | [], us, q => by simp only [Vds] at q ⊢; exact q
  | d :: ds, us, q => by
    simp only [Vds] at q ⊢
    obtain ⟨u, ur, e, q, r⟩ := q
    exact ⟨u, ur, e, Vd.keep d u q, Vds.keep ds ur r⟩
end
end
def isTupD : D → Bool
  | .tup _ => true
  | _ => false
def isIntD : D → Bool
  | .int _ => true
  | _ => false
def isStrD : D → Bool
  | .str _ => true
  | _ => false
section
variable {M : Model} {A : Around} {E : Value → Shared → Prop} {s : Shared}
theorem firstsM : ∀ (ds : List D) (its : List Value), Vds s.heap ds its → ds.all isTupD = true → plDs ds = true → ∃ fs : List (Option Value), (∀ f, some f ∈ fs → ∃ d, plD d = true ∧ Vd s.heap d f) ∧
    ∀ (E : Value → Shared → Prop) (Q : List (Option Value) → Shared → Prop), Q fs s → wpAny M A (its.mapM firstOfTuple') Q E s
  | [], its, v, _, _ => by
    simp only [Vds] at v; subst v
    exact ⟨[], ⟨fun f h => by simp at h, fun E Q q => by rw [List.mapM_nil]; exact wpAny_pure q⟩⟩
  | d :: ds, its, v, ht, pl => by
    simp only [Vds] at v
    obtain ⟨u, ur, rfl, q, r⟩ := v
    simp only [List.all_cons, Bool.and_eq_true] at ht
    simp only [plDs, Bool.and_eq_true] at pl
    obtain ⟨fs, h1, h2⟩ := firstsM ds ur r ht.2 pl.2
    cases d with
    | tup xs =>
      simp only [Vd] at q
      obtain ⟨a, ys, rfl, ⟨o, ho, hc, n, hd⟩, qs⟩ := q
      refine ⟨ys[0]? :: fs, fun f hf => ?_, fun E Q hq => ?_⟩
      · rcases List.mem_cons.mp hf with e | hf
        · cases xs with
          | nil => simp only [Vds] at qs; subst qs; cases e
          | cons x xs =>
            simp only [Vds] at qs
            obtain ⟨y, yr, rfl, q1, _⟩ := qs
            cases e
            have pl1 := pl.1
            simp only [plD, plDs, Bool.and_eq_true] at pl1
            exact ⟨x, pl1.1, q1⟩
        · exact h1 f hf
      · rw [List.mapM_cons]
        refine wpAny_bind ?_
        rw [PySem.W.kas_first_eq]
        refine wpAny_bind (PySem.W.Looks.here (show PySem.W.Looks M s.heap (typeOf (.ref a)) o.cls from (PySem.W.Looks.ld ho).andThen .now) ?_)
        rw [hc, if_neg (by first | decide | simp)]
        refine wpAny_bind (listItems_at ho hd (wpAny_pure ?_))
        have e0 : ys.toArray[0]? = ys[0]? := by simp
        rw [e0]
        exact wpAny_bind (h2 E (fun bs s' => wpAny M A (pure (ys[0]? :: bs)) Q E s') (wpAny_pure hq))
    | _ => simp [isTupD] at ht
theorem typeM {d : D} {u : Value} (pl : plD d = true) (v : Vd s.heap d u) : ∃ t : Value, PySem.W.Looks M s.heap (typeOf u) t := by
  cases d with
  | non => simp only [Vd] at v; subst v; exact ⟨_, PySem.W.Looks.now⟩
  | bl b => simp only [Vd] at v; subst v; exact ⟨_, PySem.W.Looks.now⟩
  | int i => simp only [Vd] at v; obtain ⟨t, rfl⟩ := v; exact ⟨_, PySem.W.Looks.now⟩
  | str x => simp only [Vd] at v; obtain ⟨t, rfl⟩ := v; exact ⟨_, PySem.W.Looks.now⟩
  | tup l =>
    simp only [Vd] at v
    obtain ⟨a, ys, rfl, ⟨o, ho, hc, n, hd⟩, qs⟩ := v
    exact ⟨_, (show PySem.W.Looks M s.heap (typeOf (.ref a)) o.cls from (PySem.W.Looks.ld ho).andThen .now)⟩
  | lst l =>
    simp only [Vd] at v
    obtain ⟨a, ys, rfl, ⟨o, ho, hc, n, hd⟩, qs⟩ := v
    exact ⟨_, (show PySem.W.Looks M s.heap (typeOf (.ref a)) o.cls from (PySem.W.Looks.ld ho).andThen .now)⟩
  | _ => simp [plD] at pl
theorem typesM : ∀ (us : List Value), (∀ u ∈ us, ∃ d, plD d = true ∧ Vd s.heap d u) → ∃ ts : List Value, ∀ (E : Value → Shared → Prop) (Q : List Value → Shared → Prop), Q ts s → wpAny M A (us.mapM typeOf) Q E s
  | [], _ => ⟨[], fun E Q q => by rw [List.mapM_nil]; exact wpAny_pure q⟩
  | u :: us, h => by
    obtain ⟨ts, ht⟩ := typesM us fun x m => h x (List.mem_cons_of_mem _ m)
    obtain ⟨d, pl, v⟩ := h u List.mem_cons_self
    obtain ⟨t, hl⟩ := typeM (M := M) pl v
    refine ⟨t :: ts, fun E Q q => ?_⟩
    rw [List.mapM_cons]
    exact wpAny_bind (hl.here (wpAny_bind (ht E (fun bs s' => wpAny M A (pure (t :: bs)) Q E s') (wpAny_pure q))))
theorem oneTypeM (us : List Value) (h : ∀ u ∈ us, ∃ d, plD d = true ∧ Vd s.heap d u) : ∃ r : Option Value, ∀ (E : Value → Shared → Prop) (Q : Option Value → Shared → Prop), Q r s → wpAny M A (oneTypeOnly' us.toArray) Q E s := by
  obtain ⟨ts, ht⟩ := typesM (M := M) (A := A) us h
  refine ⟨match ts.toArray[0]? with | some t => if ts.toArray.all (· == t) then some t else none | none => none, fun E Q q => ?_⟩
  rw [oneTypeOnly'_eq, List.mapM_toArray, map_eq_pure_bind]
  refine wpAny_bind (wpAny_bind (ht E _ (wpAny_pure ?_)))
  cases e : ts.toArray[0]? with
  | none => rw [e] at q; exact wpAny_pure q
  | some t =>
    rw [e] at q
    dsimp only at q ⊢
    cases e2 : ts.toArray.all (· == t) with
    | true => rw [e2] at q; exact wpAny_pure q
    | false => rw [e2] at q; exact wpAny_pure q
theorem Vds.plain {h : Heap} {ds : List D} {us : List Value} (v : Vds h ds us) (pl : plDs ds = true) : ∀ u ∈ us, ∃ d, plD d = true ∧ Vd h d u := by
  intro u m
  obtain ⟨i, d, e1, e2, q⟩ := v.mem m
  have : ∀ {ds : List D}, plDs ds = true → ∀ d ∈ ds, plD d = true := fun {ds} => by
    induction ds with
    | nil => intro _ d m; cases m
    | cons x xs ih =>
      intro p d m
      simp only [plDs, Bool.and_eq_true] at p
      rcases List.mem_cons.mp m with rfl | m
      · exact p.1
      · exact ih p.2 d m
  exact ⟨d, this pl d (List.mem_of_getElem? e1), q⟩
theorem kindT {ds : List D} {its : List Value} (v : Vds s.heap ds its) (pl : plDs ds = true) (ht : ds.all isTupD = true) : ∃ κ : SortKind, (κ = oneType' ∨ κ = general' ∨ κ = tuples' true ∨ κ = tuples' false) ∧
    ∀ (E : Value → Shared → Prop) (Q : SortKind → Shared → Prop), Q κ s → wpAny M A (keyKind' its.toArray) Q E s := by
  obtain ⟨fs, h1, h2⟩ := firstsM (M := M) (A := A) ds its v ht pl
  obtain ⟨r1, hr1⟩ := oneTypeM (M := M) (A := A) (fs.filterMap id) fun u m => by
    obtain ⟨o, m1, e⟩ := List.mem_filterMap.mp m
    have e' : o = some u := e
    subst e'
    exact h1 u m1
  obtain ⟨r2, hr2⟩ := oneTypeM (M := M) (A := A) its (v.plain pl)
  by_cases hall : (fs.toArray.all fun x => x.isSome) = true
  · refine ⟨tuples' (r1.any (· != .type "tuple")), ?_, fun E Q q => ?_⟩
    · cases r1.any (· != .type "tuple") with
      | true => exact .inr (.inr (.inl rfl))
      | false => exact .inr (.inr (.inr rfl))
    · rw [PyProof.Rows.kat_kind_eq, List.mapM_toArray, map_eq_pure_bind]
      refine wpAny_bind (wpAny_bind (h2 E _ (wpAny_pure ?_)))
      rw [if_pos hall]
      refine wpAny_bind (wpAny_rule ?_)
      have hfm : (fs.toArray.filterMap id) = (fs.filterMap id).toArray := by simp
      rw [hfm]
      exact wpAny_bind (hr1 E _ (wpAny_pure q))
  · by_cases hf : (fs.toArray[0]?.bind id).isSome = true
    · refine ⟨general', .inr (.inl rfl), fun E Q q => ?_⟩
      rw [PyProof.Rows.kat_kind_eq, List.mapM_toArray, map_eq_pure_bind]
      refine wpAny_bind (wpAny_bind (h2 E _ (wpAny_pure ?_)))
      rw [if_neg hall, if_pos hf]
      exact wpAny_pure q
    · refine ⟨if r2.isSome then oneType' else general', ?_, fun E Q q => ?_⟩
      · cases r2.isSome with
        | true => exact .inl rfl
        | false => exact .inr (.inl rfl)
      · rw [PyProof.Rows.kat_kind_eq, List.mapM_toArray, map_eq_pure_bind]
        refine wpAny_bind (wpAny_bind (h2 E _ (wpAny_pure ?_)))
        rw [if_neg hall, if_neg hf]
        exact wpAny_bind (hr2 E _ (wpAny_pure q))
end
/-! ### sorted -/
def sortOk (l : List D) : Bool := plDs l && (l.all isIntD || l.all isStrD || l.all isTupD) && (decide (l.length < 2) || l.all fun a => l.all fun b => (ltDn DEEP a b).isSome)
def sortL (l : List D) : List D := l.mergeSort fun a b => !rowB (enc b) (enc a)
def sortedD : D → Option Hd
  | .lst l => if sortOk l then some (.tmp (.lst (sortL l))) else none
  | .tup l => if sortOk l then some (.tmp (.lst (sortL l))) else none
  | _ => none
theorem sortedD_ns : NS1 sortedD := by
  intro d h q; unfold sortedD at q; split at q
  · split at q <;> cases q; rfl
  · split at q <;> cases q; rfl
  · cases q
noncomputable def keyV (h : Heap) (u : Value) : List Int := @dite _ (∃ d, plD d = true ∧ Vd h d u) (Classical.propDecidable _) (fun p => enc p.choose) (fun _ => [])
theorem keyV_eq {h : Heap} {d : D} {u : Value} (pl : plD d = true) (v : Vd h d u) : keyV h u = enc d := by
  unfold keyV
  rw [dif_pos ⟨d, pl, v⟩]
  have sp := (show ∃ d, plD d = true ∧ Vd h d u from ⟨d, pl, v⟩).choose_spec
  rw [Vd.inj _ _ _ sp.1 pl sp.2 v]
theorem rvs_map {α : Type} {K : PySem.W.Frag} {F P : Addr → Prop} {H : Hp} {f : α → D} {g : α → V} : ∀ {l : List α}, (∀ t ∈ l, RV K F P H (f t) (g t)) → RVs K F P H (l.map f) (l.map g)
  | [], _ => .nil
  | t :: l, h => .cons (h t List.mem_cons_self) (rvs_map fun x m => h x (List.mem_cons_of_mem _ m))
theorem vals_map {α : Type} {f : α → V} {g : α → Value} : ∀ {l : List α}, (∀ t ∈ l, RelV (f t) (g t)) → Vals (l.map f) (l.map g)
  | [], _ => .nil
  | t :: l, h => .cons (h t List.mem_cons_self) (vals_map fun x m => h x (List.mem_cons_of_mem _ m))
theorem triples {K : PySem.W.Frag} {F P : Addr → Prop} {H : Hp} : ∀ {l : List D} {vs : List V} {its : List Value}, RVs K F P H l vs → Vals vs its → ∃ tt : List (D × V × Value), tt.map (·.1) = l ∧ tt.map (·.2.1) = vs ∧ tt.map (·.2.2) = its ∧ ∀ t ∈ tt, RV K F P H t.1 t.2.1 ∧ RelV t.2.1 t.2.2
  | [], vs, its, r, q => by rw [r.unnil] at q ⊢; cases q; exact ⟨[], rfl, rfl, rfl, fun t m => by cases m⟩
  | d :: l, vs, its, r, q => by
    obtain ⟨v, vr, rfl, r1, rr⟩ := r.uncons
    cases q with
    | cons q1 qr =>
      rename_i u ur
      obtain ⟨tt, h1, h2, h3, h4⟩ := triples rr qr
      refine ⟨(d, v, u) :: tt, by simp [h1], by simp [h2], by simp [h3], fun t m => ?_⟩
      rcases List.mem_cons.mp m with rfl | m
      · exact ⟨r1, q1⟩
      · exact h4 t m
theorem swoKey (h : Heap) : SrtO.Swo fun u v : Value => rowB (keyV h u) (keyV h v) :=
  ⟨fun x y => rowB_asym _ _, fun x y z h1 h2 => rowB_tr _ _ _ h1 h2⟩
theorem sortTotal {α : Type} (k : α → List Int) : PySem.W.TotalLe fun a b : α => !rowB (k b) (k a) :=
  ⟨fun a b c h1 h2 => by
    simp only [Bool.not_eq_true'] at h1 h2 ⊢
    exact rowB_tr _ _ _ h1 h2, fun a b => by
    cases e : rowB (k b) (k a) with
    | false => exact .inl rfl
    | true => exact .inr (by rw [rowB_asym _ _ e]; rfl)⟩
section
variable {X : Cx}
theorem call_sortedM (hu : X.A.units + DEEP + 3 < cLine) : CallR X (.builtin "sorted") (rDN X.K (g1 sortedD)) := cr_g1 fun pins s σ H x us Q F P d hd I r r1 e res => by
  obtain ⟨l, ok, he, hx⟩ : ∃ l, sortOk l = true ∧ hd = .tmp (.lst (sortL l)) ∧ (d = .lst l ∨ d = .tup l) := by
    unfold sortedD at e
    split at e
    · rename_i l
      split at e
      · rename_i ok; cases e; exact ⟨l, ok, rfl, .inl rfl⟩
      · cases e
    · rename_i l
      split at e
      · rename_i ok; cases e; exact ⟨l, ok, rfl, .inr rfl⟩
      · cases e
    · cases e
  subst he
  obtain ⟨a, vs, its, hxr, ra, rv, hl, hz⟩ : ∃ a vs its, x = .ref a ∧ RVs X.K F P H l vs ∧ Vals vs its ∧ MiSort.SeqIs s.heap a its ∧ vs.length ≤ sizeLine := by
    rcases hx with rfl | rfl
    · obtain ⟨a, vs, rfl, ha, ra⟩ := r1.lst
      obtain ⟨its, rv, hl, hz⟩ := I.list (.of ha)
      obtain ⟨o, ho, hc, n, hd⟩ := hl.isList
      exact ⟨a, vs, its, rfl, ra, rv, ⟨o, n, ho, .inl hc, hd⟩, hz⟩
    · obtain ⟨a, vs, rfl, ha, ra⟩ := r1.tup
      obtain ⟨its, rv, hl, hz⟩ := I.tuple (.of ha)
      obtain ⟨o, ho, hc, n, hd⟩ := hl
      exact ⟨a, vs, its, rfl, ra, rv, ⟨o, n, ho, .inr hc, hd⟩, hz⟩
  subst hxr
  rw [Vals.ref1 r]
  have vd := RVs.vd I l vs its ra rv
  unfold sortOk at ok
  simp only [Bool.and_eq_true, Bool.or_eq_true] at ok
  obtain ⟨⟨pl, hk⟩, hp⟩ := ok
  have hlen : its.length = l.length := vd.length
  refine MiSort.sorted_seq (swoKey s.heap) hl (by rw [← rv.length]; exact hz) (fun h2 h₁ a' ha' kk => ?_) fun out h1 h2 => ?_
  · have hp' : ∀ x ∈ l, ∀ y ∈ l, ∃ c, ltDn DEEP x y = some c := by
      intro x mx y my
      rcases hp with hp | hp
      · have := of_decide_eq_true hp; omega
      · rw [List.all_eq_true] at hp
        have := hp x mx
        rw [List.all_eq_true] at this
        exact Option.isSome_iff_exists.mp (this y my)
    intro h' keep
    have k' : ∀ b o, s.heap.get? b = some o → h'.get? b = some o := fun b o e => keep b o (kk b o e).1 (kk b o e).2
    have vd' : Vds h' l its := Vds.keep k' l its vd
    have cmp : ∀ κ : SortKind, (κ = oneType' ∨ κ = general' ∨ ((κ = tuples' true ∨ κ = tuples' false) ∧ l.all isTupD = true)) → SrtO.Cmp X.prog X.w X.A.in1.in1 { s with heap := h' } κ (fun p => p.1 ∈ its) (SrtO.lt2 fun u v : Value => rowB (keyV s.heap u) (keyV s.heap v)) := by
      intro κ hκ p q mp mq
      obtain ⟨i, x, e1, e2, qx⟩ := vd.mem mp
      obtain ⟨j, y, e3, e4, qy⟩ := vd.mem mq
      have mx := List.mem_of_getElem? e1
      have my := List.mem_of_getElem? e3
      obtain ⟨c, hc⟩ := hp' x mx y my
      have plx : plD x = true := by
        obtain ⟨d, p1, p2⟩ := vd.plain pl p.1 mp
        have := plDs_mem pl x mx
        exact this
      have ply : plD y = true := plDs_mem pl y my
      refine keyLtM (n := DEEP) (d := x) (e := y) (c := c) ?_ (Vd.keep k' _ _ qx) (Vd.keep k' _ _ qy) hc (by show X.A.units + 1 + 1 + DEEP < cLine; omega) ⟨rfl, ?_⟩
      · rcases hκ with h | h | ⟨h, ht⟩
        · exact .inl h
        · exact .inr (.inl h)
        · rw [List.all_eq_true] at ht
          have t1 := ht x mx
          have t2 := ht y my
          cases x <;> simp [isTupD] at t1
          cases y <;> simp [isTupD] at t2
          exact .inr (.inr ⟨h, ⟨_, rfl⟩, ⟨_, rfl⟩⟩)
      · show c = rowB (keyV s.heap p.1) (keyV s.heap q.1)
        rw [keyV_eq plx qx, keyV_eq ply qy]
        exact (ltDn_row hc).symm
    rcases hk with (hk | hk) | hk
    · refine ⟨oneType', fun Q E hq => ?_, cmp _ (.inl rfl)⟩
      refine PySem.W.kas_kind (T := .type "int") h2 (fun v m => ?_) (by rfl) (by rfl) hq
      obtain ⟨i, x, e1, e2, qx⟩ := vd'.mem m
      rw [List.all_eq_true] at hk
      have := hk x (List.mem_of_getElem? e1)
      cases x <;> simp [isIntD] at this
      simp only [Vd] at qx
      obtain ⟨t, rfl⟩ := qx
      exact PySem.W.Looks.now
    · refine ⟨oneType', fun Q E hq => ?_, cmp _ (.inl rfl)⟩
      refine PySem.W.kas_kind (T := .type "str") h2 (fun v m => ?_) (by rfl) (by rfl) hq
      obtain ⟨i, x, e1, e2, qx⟩ := vd'.mem m
      rw [List.all_eq_true] at hk
      have := hk x (List.mem_of_getElem? e1)
      cases x <;> simp [isStrD] at this
      simp only [Vd] at qx
      obtain ⟨t, rfl⟩ := qx
      exact PySem.W.Looks.now
    · obtain ⟨κ, hκ, hr⟩ := kindT (M := model X.prog X.w) (A := X.A.in1.in1) (s := { s with heap := h' }) vd' pl hk
      refine ⟨κ, fun Q E hq => hr E Q hq, cmp κ ?_⟩
      rcases hκ with h | h | h | h
      · exact .inl h
      · exact .inr (.inl h)
      · exact .inr (.inr ⟨.inl h, hk⟩)
      · exact .inr (.inr ⟨.inr h, hk⟩)
  · -- the sorted list
    have eo : out = its.mergeSort fun u v => !rowB (keyV s.heap v) (keyV s.heap u) := by
      refine PySem.W.sort_unique (sortTotal _) (h1.imp fun {x y} z => by
        have z' : rowB (keyV s.heap y) (keyV s.heap x) = false := z
        show (!rowB (keyV s.heap y) (keyV s.heap x)) = true
        rw [z']; rfl) fun c => ?_
      have := h2.cls c
      have e3 : PySem.W.sameRank (fun u v : Value => !rowB (keyV s.heap v) (keyV s.heap u)) c = SrtO.eqv (fun u v : Value => rowB (keyV s.heap u) (keyV s.heap v)) c := by
        funext z
        show (!_ && !_) = (!_ && !_)
        rw [Bool.and_comm]
      rw [e3]
      exact this
    obtain ⟨tt, t1, t2, t3, t4⟩ := triples ra rv
    have key : ∀ t ∈ tt, keyV s.heap t.2.2 = enc t.1 := fun t m => by
      have m1 : t.1 ∈ l := by rw [← t1]; exact List.mem_map.mpr ⟨t, m, rfl⟩
      exact keyV_eq (plDs_mem pl _ m1) (RV.vd I t.1 t.2.1 t.2.2 (t4 t m).1 (t4 t m).2)
    let ss := tt.mergeSort fun t t' => !rowB (enc t'.1) (enc t.1)
    have s1 : ss.map (·.1) = sortL l := by
      show _ = List.mergeSort l _
      rw [← t1]
      exact PySem.W.sort_maps (fun t : D × V × Value => t.1) fun a _ b _ => rfl
    have s3 : ss.map (·.2.2) = out := by
      rw [eo, ← t3]
      exact PySem.W.sort_maps (fun t : D × V × Value => t.2.2) fun a ma b mb => by rw [key a ma, key b mb]
    have mem : ∀ t ∈ ss, t ∈ tt := fun t m => List.mem_mergeSort.mp m
    have rvs : RVs X.K F P H (sortL l) (ss.map (·.2.1)) := by
      rw [← s1]
      exact rvs_map fun t m => (t4 t (mem t m)).1
    have vls : Vals (ss.map (·.2.1)) out := by
      rw [← s3]
      exact vals_map fun t m => (t4 t (mem t m)).2
    obtain ⟨ep, he'⟩ := PyProof.Rows.sortedAll_at s.heap its out.toArray
    have hlen2 : (ss.map (·.2.1)).length ≤ sizeLine := by
      have : ss.length = tt.length := List.length_mergeSort _
      rw [List.length_map, this, ← List.length_map (f := (·.2.1)), t2]
      exact hz
    exact ⟨.ref _, upd H (s.heap.objs.size + 1) (.lst (ss.map (·.2.1))), I.laid (t' := s.toks) (fun _ _ => PyProof.Rows.sortedAll_old) (Nat.le_succ _) ⟨hlen2, out, ep, vls, he'⟩, rfl, res _ _ _ rfl rvs (I.hok.fresh (Nat.le_succ _))⟩
where
  plDs_mem : ∀ {ds : List D}, plDs ds = true → ∀ d ∈ ds, plD d = true
    | [], _, d, m => by cases m
    | x :: xs, p, d, m => by
      simp only [plDs, Bool.and_eq_true] at p
      rcases List.mem_cons.mp m with rfl | m
      · exact p.1
      · exact plDs_mem p.2 d m
end
end Mi
set_option Elab.async false
set_option linter.all false
set_option maxRecDepth 100000
set_option maxHeartbeats 2000000
namespace Mi
open PySem PySem.Spec PyProof.Rows L2

/-! ### min, max of many -/
def minL (x : D) (xs : List D) : D := xs.foldl (fun a y => if rowB (enc y) (enc a) then y else a) x
def minOk (l : List D) : Bool := l.all fun a => l.all fun b => (ltDn DEEP a b).isSome
def minD (d : D) : Option Hd := match seqD d with
  | some (x :: xs) => if minOk (x :: xs) then some (.val (minL x xs)) else none
  | _ => none
def maxD (d : D) : Option Hd := match seqD d with
  | some l => match intsO l with
    | some (n :: ns) => some (.val (.int (ns.foldl max n)))
    | _ => none
  | _ => none
theorem minD_ns : NS1 minD := by
  intro d h q; unfold minD at q; split at q
  · split at q <;> cases q; rfl
  · cases q
theorem maxD_ns : NS1 maxD := by
  intro d h q; unfold maxD at q; split at q
  · split at q <;> cases q; rfl
  · cases q
section
variable {X : Cx}
theorem call_minM (hc : X.calm = true) (hu : X.A.units + DEEP + 1 < cLine) : CallR X (.builtin "min") (rDN X.K (g1 minD)) := cr_g1 fun pins s σ H x us Q F P d hd I r r1 e res => by
  unfold minD at e
  split at e
  · rename_i y ys el
    split at e
    · rename_i ok
      cases e
      obtain ⟨p, vs, rfl, rs, ha⟩ := r1.seq el
      have r' := r
      obtain ⟨its, rv, hl⟩ : ∃ its, Vals vs its ∧ (s.heap.IsList p its.toArray ∨ IsTup s.heap p its.toArray) := by
        rcases ha with ⟨ha, _⟩ | ⟨ha, _⟩
        · obtain ⟨its, rv, p, _⟩ := I.tuple (.of ha); exact ⟨its, rv, .inr p⟩
        · obtain ⟨its, rv, p, _⟩ := I.list (.of ha); exact ⟨its, rv, .inl p.isList⟩
      rw [Vals.ref1 r]
      have vd := RVs.vd I _ vs its rs rv
      have hlen : its.length = ys.length + 1 := by rw [vd.length]; rfl
      have hp' : ∀ a ∈ y :: ys, ∀ b ∈ y :: ys, ∃ c, ltDn DEEP a b = some c := by
        intro a ma b mb
        unfold minOk at ok
        rw [List.all_eq_true] at ok
        have := ok a ma
        rw [List.all_eq_true] at this
        exact Option.isSome_iff_exists.mp (this b mb)
      refine call_min_walkH (iter_seqM (A := X.A.in1) (I.ok.hd hc) hl fun s₂ o St e W st hfp hw hk => ?_)
      subst e
      refine ⟨_, _, _, _, _, _, _, s.heap, fun i j => rowB (enc ((y :: ys).getD i y)) (enc ((y :: ys).getD j y)), rfl, W.toS, st, hfp, by omega, hw, hk, ?_, fun v s' hP m => ?_⟩
      · intro i j vi vj s' Q' E' hk' hi hj hq
        have gi : i < (y :: ys).length := by rw [← vd.length]; exact (List.getElem?_eq_some_iff.mp hi).1
        have gj : j < (y :: ys).length := by rw [← vd.length]; exact (List.getElem?_eq_some_iff.mp hj).1
        have ei : (y :: ys)[i]? = some ((y :: ys).getD i y) := by rw [List.getD_eq_getElem?_getD, List.getElem?_eq_getElem gi]; rfl
        have ej : (y :: ys)[j]? = some ((y :: ys).getD j y) := by rw [List.getD_eq_getElem?_getD, List.getElem?_eq_getElem gj]; rfl
        obtain ⟨c, hc⟩ := hp' _ (List.mem_of_getElem? ei) _ (List.mem_of_getElem? ej)
        refine ltAt_of DEEP _ _ c vi vj (Vd.keep hk' _ _ (vd.get ei hi)) (Vd.keep hk' _ _ (vd.get ej hj)) hc X.A.in1 (by show X.A.units + 1 + DEEP < cLine; omega) _ _ _ _ ?_
        have hq' : Q' (.bool (rowB (enc ((y :: ys).getD i y)) (enc ((y :: ys).getD j y)))) s' := hq
        rw [ltDn_row hc] at hq'
        exact hq'
      · obtain ⟨h', tk, rfl, hk'⟩ := moved_kept m
        have ab := PySem.W.argBest_fold (fun a b : D => rowB (enc a) (enc b)) y y ys ys.length (Nat.le_refl _)
        have en : its.length - 1 = ys.length := by omega
        rw [en] at hP
        have gk := List.getElem?_eq_some_iff.mp hP
        have el' : (y :: ys)[argBest (fun i j => rowB (enc ((y :: ys).getD i y)) (enc ((y :: ys).getD j y))) ys.length]? = some (minL y ys) := by
          have h2 := ab.2
          rw [List.take_length] at h2
          rw [show minL y ys = ys.foldl (fun a z => if rowB (enc z) (enc a) then z else a) y from rfl, ← h2, List.getD_eq_getElem?_getD]
          have : argBest (fun i j => rowB (enc ((y :: ys).getD i y)) (enc ((y :: ys).getD j y))) ys.length < (y :: ys).length := by
            have := ab.1
            simp only [List.length_cons]
            omega
          rw [List.getElem?_eq_getElem this]; rfl
        obtain ⟨w, ew, rw'⟩ := rs.get el'
        have rel : RelV w v := by
          obtain ⟨u, eu, ru⟩ := rv.get ew
          have := eu.symm.trans hP
          cases this
          exact ru
        exact ⟨w, H, I.kept hk', rel, res.1 w rw'⟩
    · cases e
  · cases e
theorem call_maxM (hc : X.calm = true) : CallR X (.builtin "max") (rDN X.K (g1 maxD)) := cr_g1 fun pins s σ H x us Q F P d hd I r r1 e res => by
  unfold maxD at e
  split at e
  · rename_i l el
    split at e
    · rename_i n ns e2
      cases e
      obtain ⟨a, its, rfl, hl, vd⟩ := r1.its I el r
      have hlen : its.length = ns.length + 1 := by rw [vd.length, intsO_len e2]; simp
      refine call_max_walkH (iter_seqM (A := X.A.in1) (I.ok.hd hc) hl fun s₂ o St e W st hfp hw hk => ?_)
      subst e
      refine ⟨_, _, _, _, _, _, _, s.heap, fun i j => decide ((n :: ns).getD i 0 > (n :: ns).getD j 0), rfl, W.toS, st, hfp, by omega, hw, hk, ?_, fun v s' hP m => ?_⟩
      · intro i j vi vj s' Q' E' hk' hi hj hq
        obtain ⟨t, rfl⟩ := intsO_vd e2 vd i vi hi
        obtain ⟨t', rfl⟩ := intsO_vd e2 vd j vj hj
        exact PyProof.Rows.gt_int hq
      · obtain ⟨h', tk, rfl, hk'⟩ := moved_kept m
        have ab := PySem.W.argBest_fold (fun a b : Int => decide (a > b)) 0 n ns ns.length (Nat.le_refl _)
        have en : its.length - 1 = ns.length := by omega
        rw [en] at hP
        obtain ⟨t, rfl⟩ := intsO_vd e2 vd _ _ hP
        refine ⟨.int (ns.foldl max n), H, I.kept hk', ⟨t, ?_⟩, res.1 _ rv_int⟩
        have h2 := ab.2
        rw [List.take_length] at h2
        rw [h2]
        have : ∀ (l : List Int) (z : Int), l.foldl (fun a y => if decide (y > a) = true then y else a) z = l.foldl max z := by
          intro l
          induction l with
          | nil => intro z; rfl
          | cons y l ih =>
            intro z
            rw [List.foldl_cons, List.foldl_cons, ih]
            congr 1
            by_cases h : y > z
            · rw [if_pos (decide_eq_true h)]; omega
            · rw [if_neg (by simpa using h)]; omega
        rw [this]
    · cases e
  · cases e
end
end Mi
set_option Elab.async false
set_option linter.all false
set_option maxRecDepth 100000
set_option maxHeartbeats 2000000
namespace Mi
open PySem PySem.Spec PyProof.Rows L2

/-! ### defs that are called where no repr is under way -/
structure GRoom (k : Nat) (A : Around) : Prop where
  r : Room k A
  g : A.guards = some []
theorem GRoom.mono {j k : Nat} {A : Around} (h : GRoom k A) (l : j ≤ k) : GRoom j A := ⟨h.r.mono l, h.g⟩
structure FnG (Pg : Program) (w : World) (K : PySem.W.Frag) (mg : Str → Option Value) (base : Heap) (k : Nat) (f : Addr) (fd : FuncData) (ps : List Str) (sp : Sp) : Prop where
  len : ∀ vs H Q E, sp vs H Q E → vs.length = ps.length
  run : ∀ (A : Around) (outer : List Env) (s : Shared) (H : Hp) (us : List Value) (vs : List V) (Q : VK), GRoom k A → Env0 Pg w K mg base A outer s H → BindsTo s fd ⟨us, []⟩ (ps.zip us) → Vals vs us → sp vs H Q E0 →
    codeAny (model Pg w) A (.call (.ref f) ⟨us, []⟩) (CR CX0 outer Pg w H s Q E0) s
section
variable {Pg : Program} {w : World} {K : PySem.W.Frag} {mg : Str → Option Value} {base : Heap}
theorem FnG.mono {j k : Nat} {f : Addr} {fd : FuncData} {ps : List Str} {sp : Sp} (F : FnG Pg w K mg base j f fd ps sp) (h : j ≤ k) : FnG Pg w K mg base k f fd ps sp :=
  ⟨F.len, fun A outer s H us vs Q hr => F.run A outer s H us vs Q (hr.mono h)⟩
theorem fnG_of {x qual : Str} {st : Stmt} {f : Addr} {fd : FuncData} {Nm ps : List Str} {k : Nat} {sp : Sp} (Fn : Fun K x qual st f fd) (Sc : FnScope Nm ps (defScope st)) (hlen : ∀ vs H Q E, sp vs H Q E → vs.length = ps.length)
    (hb : ∀ (cdv : Value) (A : Around) (outer : List Env) (s : Shared) (H : Hp) (vs : List V) (Q : VK), GRoom k (A.deeper (envOfC qual (defScope st) s.heap.objs.size f cdv)) → sp vs H Q E0 →
      ∃ t, PSs (cxOf CX0 Pg w K mg base Nm qual (defScope st) f cdv A outer s H E0).nox (defBody st) t ∧ t { nx := fun _ H' => Q .non H', rt := Q } (L2.start Nm vs) H) :
    FnG Pg w K mg base (k + 1) f fd ps sp := by
  obtain ⟨oc, od, kV, doc, pm, an, cdv, ct, osl, rfl, lk, hcd⟩ := Fn.ex
  constructor
  · exact hlen
  intro A outer s H us vs Q hr e0 bd r q
  have inH : K.In s.heap := e0.mod.kin.keeps fun b o e => (e0.bs b o e).1
  have par : ∀ y ∈ ps.zip us, (defScope st).names.lookup y.1 = some .local ∨ ((defScope st).names.lookup y.1 = some .cell ∧ ((cellsFrom (s.heap.objs.size + 1) (defScope st).names []).lookup y.1).isSome = true) := by
    rintro ⟨y, u⟩ m
    have := Sc.par y (List.of_mem_zip m).1
    exact this.imp id fun z => ⟨z, PySem.W.cellsFrom_some _ _ _ (.inl z)⟩
  refine codeAny_call_function hr.r.depth (inH _ _ lk) rfl Sc.co Sc.gen rfl (PySem.W.codeRec_of inH hcd) (bd _ _ _ _ ?_)
  refine wpAny_newFunctionEnv_cells Sc.kind par fun env he s1 x => ?_
  cases he
  have nl : s.heap.NoLimit := e0.mod.nolimit.keeps fun b o e => (e0.bs b o e).1
  refine ⟨nl.keeps x.toInCall.keep, codeAny_func ?_⟩
  obtain ⟨t, ht, hq⟩ := hb cdv A outer s H vs Q ⟨hr.r.deeper _, hr.g⟩ q
  have I : Inv (cxOf CX0 Pg w K mg base Nm qual (defScope st) f cdv A outer s H E0) [] (L2.start Nm vs) H s1 := inv_start Sc hr.r.hd e0 (hlen _ _ _ _ q) r x
  refine wpAny_mono (ht.nox.run [] s1 (L2.start Nm vs) H _ I hq) (fun fl s' hs => ?_) fun _ _ h => h
  cases fl
  case ret u =>
    obtain ⟨v, σ', H', J, rv, q'⟩ := hs
    exact ⟨v, H', J.os, J.bare, J.base, J.hok, rv, q'⟩
  case next =>
    obtain ⟨σ', H', J, q'⟩ := hs
    exact ⟨.non, H', J.os, J.bare, J.base, J.hok, rfl, q'⟩
  case brk => exact hs.choose_spec.choose_spec.2.elim
  case cont => exact hs.choose_spec.choose_spec.2.elim
theorem fn_okG {x qual : Str} {st : Stmt} {f : Addr} {fd : FuncData} {Nm ps : List Str} {k : Nat} {body : MS} (Fn : Fun K x qual st f fd) (Sc : FnScope Nm ps (defScope st))
    (hb : ∀ (cdv : Value) (A : Around) (outer : List Env) (s : Shared) (H : Hp) (Z : Fr), GRoom k (A.deeper (envOfC qual (defScope st) s.heap.objs.size f cdv)) →
      PSs (cxOf CX0 Pg w K mg base Nm qual (defScope st) f cdv A outer s H E0).nox (defBody st) (sM K Z body)) :
    FnG Pg w K mg base (k + 1) f fd ps (spM K (mkFn Nm.length ps.length body) ps.length) := by
  refine fnG_of Fn Sc (fun vs H Q E h => ?_) (fun cdv A outer s H vs Q hr h => ?_)
  · obtain ⟨N, F, P, ds, hl, _⟩ := h
    exact hl
  · obtain ⟨Z, q⟩ := mkFn_ok h
    exact ⟨_, hb cdv A outer s H Z hr, q⟩
end
section
variable {X : Cx} {k : Nat} {f : Addr} {fd : FuncData} {ps : List Str} {sp : Sp} {x : Str} {p pos : Pos} {e : Expr} {es : List Expr} {t : TA}
theorem pe_callG (F : FnG X.prog X.w X.K X.mg X.base k f fd ps sp) (hr : GRoom k X.A) (hg : Gl X x) (hm : X.mg x = some (.ref f)) (hk : PySem.W.keepIn X.K (.ref f) = true) (hb : Binds X.K fd ps [])
    (ha : PA X (e :: es) t) (hdb : (x == ("__debug__" : Str)) = false := by decide) (he : starEach (e :: es) X.env = (false, eval e X.env) :: starEach es X.env := by rfl) (hpl : (backTo pos (starEach es X.env)).any (·.1) = false := by rfl) :
    PE X (.Call (.Name x p) (e :: es) [] pos) (tCall sp [] E0 t) := by
  constructor
  intro pins s σ H Q I h
  refine wpAny_Call_Name_kw (ld_glob I hg hm ?_ hdb)
  refine PySem.W.callWith_K (h₀ := X.base) I.ok.mod.kin hk (thn (ha.run pos pins s σ H _ I h) fun us s1 ⟨vs, H1, I1, r, q⟩ => ⟨I1.kIn, ?_⟩) he hpl
  have q : sp (vs ++ []) H1 Q E0 := q
  rw [List.append_nil] at q
  have hl : us.length = ps.length := by rw [← r.length]; exact F.len _ _ _ _ q
  have bd := hb s1 us I1.kIn (by rw [List.append_nil]; exact hl)
  rw [List.append_nil] at bd
  refine wpAny_call (codeAny_mono (F.run X.A X.stack s1 H1 us vs Q hr I1.env0 bd r q) fun res s' hq => ?_)
  match res, hq with
  | .ok (.ret u), hq => exact I1.after hq
  | .ok .next, hq => exact hq.elim
  | .ok .brk, hq => exact hq.elim
  | .ok .cont, hq => exact hq.elim
  | .error e, hq => exact hq.elim
end
end Mi
set_option Elab.async false
set_option linter.all false
set_option maxRecDepth 100000
set_option maxHeartbeats 2000000
namespace Mi
open PySem PySem.Spec PyProof.Rows L2

/-! ### lists and tuples walked -/
def SqB (b : Bool) (K : PySem.W.Frag) (H : Hp) (a : Addr) (xs : List V) : Prop := if b then SqL K H a xs else SqT K H a xs
def AtB (b : Bool) (h : Heap) (a : Addr) (its : List Value) : Prop := if b then h.IsList a its.toArray else h.IsTuple a its.toArray
def ItB (b : Bool) (h : Heap) (it a : Addr) (i : Nat) : Prop := if b then h.IsListIter it a i else h.IsTupleIter it a i
def itO (b : Bool) (a : Addr) : Obj := if b then { cls := .type "list_iterator", data := .fields #[.ref a, .int 0 0] } else { cls := .type "tuple_iterator", data := .fields #[.ref a, .int 0 0] }
theorem ItB.at {b : Bool} {h h' : Heap} {it a : Addr} {i : Nat} (q : ItB b h it a i) (k : ∀ o, h.get? it = some o → h'.get? it = some o) : ItB b h' it a i := by
  cases b with
  | true => exact (show h.IsListIter it a i from q).at k
  | false => exact (show h.IsTupleIter it a i from q).at k
theorem ItB.obj {b : Bool} {h : Heap} {it a : Addr} {i : Nat} (q : ItB b h it a i) : ∃ o, h.get? it = some o ∧ ∀ v, o.data ≠ .cell v := by
  cases b with
  | true => obtain ⟨o, e, _, d⟩ := (show h.IsListIter it a i from q); exact ⟨o, e, fun v z => by rw [d] at z; cases z⟩
  | false => obtain ⟨o, e, _, d⟩ := (show h.IsTupleIter it a i from q); exact ⟨o, e, fun v z => by rw [d] at z; cases z⟩
theorem ItB.lt {b : Bool} {h : Heap} {it a : Addr} {i : Nat} (q : ItB b h it a i) : it < h.objs.size := let ⟨_, e, _⟩ := q.obj; Heap.lt_size e
theorem ItB.new {b : Bool} {h : Heap} {it a : Addr} (e : h.get? it = some (itO b a)) : ItB b h it a 0 := by
  cases b with
  | true => exact ⟨_, e, rfl, rfl⟩
  | false => exact ⟨_, e, rfl, rfl⟩
theorem AtB.keep {b : Bool} {h h' : Heap} {a : Addr} {its : List Value} (q : AtB b h a its) (k : ∀ o, h.get? a = some o → h'.get? a = some o) : AtB b h' a its := by
  cases b with
  | true => exact (show h.IsList a its.toArray from q).at k
  | false => exact (show h.IsTuple a its.toArray from q).at k
theorem AtB.lt {b : Bool} {h : Heap} {a : Addr} {its : List Value} (q : AtB b h a its) : a < h.objs.size := by
  cases b with
  | true => obtain ⟨_, e, _⟩ := (show h.IsList a its.toArray from q); exact Heap.lt_size e
  | false => obtain ⟨_, e, _⟩ := (show h.IsTuple a its.toArray from q); exact Heap.lt_size e
theorem AtB.begins (b : Bool) (a : Addr) (its : List Value) : Begins (.ref a) (itO b a) fun h => AtB b h a its := by
  cases b with
  | true => exact begins_list a its.toArray
  | false => exact begins_tuple a its.toArray
theorem drawsB {prog : Program} {w : World} {A : Around} (hh : A.handled = none) (b : Bool) (it a : Addr) (hne : a ≠ it) (its : List Value) :
    Draws prog w A it [it, a] its.length (fun i v => its[i]? = some v) (fun i h => ItB b h it a i ∧ AtB b h a its) := by
  cases b with
  | true =>
    have := Draws.list (prog := prog) (w := w) (A := A) hh it a hne its.toArray
    simp only [List.size_toArray, List.getElem?_toArray] at this
    exact this
  | false =>
    have := Draws.tuple (prog := prog) (w := w) (A := A) hh it a hne its.toArray
    simp only [List.size_toArray, List.getElem?_toArray] at this
    exact this
section
variable {X : Cx} {pins : List (Addr × Obj)} {σ : L2.St} {H : Hp} {s : Shared}
theorem SqB.at {b : Bool} {a : Addr} {xs : List V} (I : Inv X pins σ H s) (q : SqB b X.K H a xs) : ∃ its, Vals xs its ∧ AtB b s.heap a its ∧ xs.length ≤ sizeLine := by
  cases b with
  | true => obtain ⟨its, rv, p, hz⟩ := I.list (show SqL X.K H a xs from q); exact ⟨its, rv, p.isList, hz⟩
  | false => obtain ⟨its, rv, p, hz⟩ := I.tuple (show SqT X.K H a xs from q); exact ⟨its, rv, p, hz⟩
theorem SqB.inj {b : Bool} {a : Addr} {xs ys : List V} (I : Inv X pins σ H s) (q : SqB b X.K H a xs) (q' : SqB b X.K H a ys) : xs = ys := by
  cases b with
  | true => exact I.list_inj q q'
  | false => exact I.tuple_inj q q'
end
/-! ### enumerate -/
def IteB (b : Bool) (K : PySem.W.Frag) (a : Addr) : It :=
  ⟨fun i H => ∃ (xs : List V) (x : V), SqB b K H a xs ∧ xs[i]? = some x, fun i H v H' => ∃ T x, v = .ref T ∧ H T = none ∧ H' = L2.upd H T (.tup [.int (i : Nat), x]) ∧ ∀ xs, SqB b K H a xs → xs[i]? = some x, fun i H => ∃ xs : List V, SqB b K H a xs ∧ xs.length = i⟩
theorem turn_enumB {P : Program} {w : World} {K : PySem.W.Frag} {elts : List Expr} {kk : Nat} {tpos : Pos} (b : Bool) (a e it : Addr) (hai : a ≠ it) (hea : e ≠ a) :
    Turn P w K (.Tuple elts kk tpos) (IteB b K a) [e, it] e (fun i h => (∃ old, IsEnum h e it ((i : Nat) : Int) old) ∧ ItB b h it a i ∧ e ≠ it) where
  mem := by simp
  obj := fun i h st c hc => by
    obtain ⟨⟨old, he⟩, hi, _⟩ := st
    have e' : c = e ∨ c = it := by simpa using hc
    rcases e' with rfl | rfl
    · exact ⟨_, he, fun v q => nomatch q⟩
    · exact hi.obj
  keep := fun i h h' st k => let ⟨⟨old, he⟩, hi, hne⟩ := st; ⟨⟨old, k e (by simp) _ he⟩, hi.at fun o q => k it (by simp) o q, hne⟩
  item := by
    intro X hP hw hK hc i pins s σ H E I hf st hg
    subst hP hw hK
    obtain ⟨⟨old, he⟩, hit, hne⟩ := st
    obtain ⟨xs, x, hq, hx⟩ := hg
    obtain ⟨its, rv, p, hz⟩ := hq.at I
    obtain ⟨u, hu, ru⟩ := rv.get hx
    have hel : e < s.heap.objs.size := Heap.lt_size he
    refine wpAny_pyNext_enum_itemD (drawsB (A := X.A.in1) (I.ok.hd hc) b it a hai its) he ⟨hit, p⟩ (List.getElem?_eq_some_iff.mp hu).1 hne (by simp [hne, hea]) fun u' h' tk hu' ho hst hT hsz hk => ?_
    have eu : u' = u := Option.some.inj (hu'.symm.trans hu)
    subst eu
    refine ⟨_, rfl, wpAny_letOwnedTupleGo_enum (s := { s with heap := h', toks := tk + 1 }) ho fun h'' he' sb => ?_⟩
    have hT2 : h''.get? s.heap.objs.size = some { cls := .type "tuple", data := .seq #[.int i tk, u'] } := (sb.2 _ (Nat.ne_of_gt hel)).trans hT
    have new : ObjOk X.prog X.w (L2.upd H s.heap.objs.size (.tup [.int (i : Nat), x])) h'' s.heap.objs.size (.tup [.int (i : Nat), x]) :=
      ⟨by show 2 ≤ sizeLine; decide, [.int i tk, u'], .cons ⟨_, rfl⟩ (.cons ru .nil), ⟨_, hT2, rfl, _, rfl⟩⟩
    have I1 : Inv X pins σ (L2.upd H s.heap.objs.size (.tup [.int (i : Nat), x])) { s with heap := h'', toks := tk + 1 } :=
      I.turnedNew (ch := [e, it]) (fun c ob hb q => (sb.2 c (fun z => hb (by simp [z]))).trans (hk c ob (fun z => hb (by simp [z])) (fun z => hb (by simp [z])) q)) hf (Nat.le_refl _) new
    refine ⟨.ref s.heap.objs.size, _, I1, rfl, ⟨_, x, rfl, I.hok.fresh (Nat.le_refl _), rfl, fun ys hy => by rw [hy.inj I hq]; exact hx⟩, ⟨⟨u', ?_⟩, hst.1.at fun o q => (sb.2 it (Ne.symm hne)).trans q, hne⟩, fun c hcm => ?_⟩
    · have e1 : ((i + 1 : Nat) : Int) = (i : Int) + 1 := by omega
      rw [e1]; exact he'
    · have hlt : c < s.heap.objs.size := by
        have e' : c = e ∨ c = it := by simpa using hcm
        rcases e' with rfl | rfl
        · exact hel
        · exact hit.lt
      rw [upd_ne (Nat.ne_of_lt hlt)]
      exact (hf c hcm).1
  done := by
    intro X hP hw hK hc i pins s σ H E I hf st hg
    subst hP hw hK
    obtain ⟨⟨old, he⟩, hit, hne⟩ := st
    obtain ⟨xs, hq, hx⟩ := hg
    obtain ⟨its, rv, p, hz⟩ := hq.at I
    obtain ⟨f0, f1, f2, f3, f4, f5⟩ := hf it (by simp)
    have hl : its.length = i := by rw [← rv.length, hx]
    refine wpAny_pyNext_enum_endD (drawsB (A := X.A.in1) (I.ok.hd hc) b it a hai its) he ⟨hl ▸ hit, p⟩ fun h' eb => ⟨rfl, I.turned (t' := s.toks) (fun c o hb q => eb c o hb q) f0 f1 f3 f4 f5⟩
  self := fun A i s Q E st h => let ⟨⟨_, he⟩, _⟩ := st; wpAny_pyIter_enum he h
theorem meets_enumT (l : Addr) (items : Array Value) :
    Meets (Builtin.«enumerate.__new__» ⟨[.type "enumerate", .ref l], []⟩) (fun _ R s => s.heap.IsTuple l items ∧
      R (.ok (.ret (.ref (s.heap.push { cls := .type "tuple_iterator", data := .fields #[.ref l, .int 0 0] }).objs.size)))
        { s with heap := (s.heap.push { cls := .type "tuple_iterator", data := .fields #[.ref l, .int 0 0] }).push { cls := .type "enumerate", data := .fields #[.none, .bool false, .ref s.heap.objs.size, rawInt 0, .none, .none] } }) :=
  .of_wp fun prog w A R s h => by
    obtain ⟨hp, g, d, tk, os⟩ := s
    obtain ⟨hl, h⟩ := h
    have hL : Heap.IsTuple (Shared.heap ⟨hp, g, d, tk, os⟩) l items := hl
    have hsub := sub_enumerate
    wp_walk
    refine wpAny_stack_any fun st => wpAny_pure ?_
    split
    · rename_i c _ _ _ _ _
      cases (c == Value.type "enumerate")
      · wp_walk using wpAny_pyIter_tuple hL
        exact ⟨_, rfl, h⟩
      · wp_walk using wpAny_pyIter_tuple hL
        exact ⟨_, rfl, h⟩
    · wp_walk using wpAny_pyIter_tuple hL
      exact ⟨_, rfl, h⟩
theorem call_enumB {prog : Program} {w : World} {A : Around} {E : Value → Shared → Prop} {s : Shared} {b : Bool} {l : Addr} {its : List Value} {Q : Value → Shared → Prop} (hL : AtB b s.heap l its)
    (h : ∀ h', IsEnum h' (s.heap.objs.size + 1) s.heap.objs.size 0 .none → ItB b h' s.heap.objs.size l 0 → (∀ b o, s.heap.get? b = some o → h'.get? b = some o) → Q (.ref (s.heap.objs.size + 1)) { s with heap := h' }) :
    wpAny (model prog w) A (call (.type "enumerate") [.ref l]) Q E s := by
  cases b with
  | true => exact call_enumerate_list hL fun h' he hi _ hk => h h' he hi hk
  | false =>
    have hL' : s.heap.IsTuple l its.toArray := hL
    refine callType_new F.called_enumerate (by decide) (F.typeCall_enumerate_1 _) (F.newCall_enumerate_1 _) (fun obj => F.args_object_init_2 obj _) F.entry_enumerate_new (meets_enumT l its.toArray) ⟨hL', ?_⟩
    have hz : (s.heap.push { cls := .type "tuple_iterator", data := .fields #[.ref l, .int 0 0] }).objs.size = s.heap.objs.size + 1 := Heap.size_push ..
    show _ ∧ _
    rw [hz]
    have he : IsEnum ((s.heap.push { cls := .type "tuple_iterator", data := .fields #[.ref l, .int 0 0] }).push { cls := .type "enumerate", data := .fields #[.none, .bool false, .ref s.heap.objs.size, rawInt 0, .none, .none] }) (s.heap.objs.size + 1) s.heap.objs.size 0 .none := by
      have := Heap.get?_push_size (s.heap.push { cls := .type "tuple_iterator", data := .fields #[.ref l, .int 0 0] }) (o := { cls := .type "enumerate", data := .fields #[.none, .bool false, .ref s.heap.objs.size, rawInt 0, .none, .none] }) rfl
      rw [hz] at this; exact this
    exact ⟨⟨_, he, rfl⟩, h _ he ⟨_, Heap.get?_push_of_some _ (Heap.get?_push_size _ rfl), rfl, rfl⟩ fun b o x => Heap.get?_push_of_some _ (Heap.get?_push_of_some _ x)⟩
/-! ### zip -/
def ItzB (b c : Bool) (K : PySem.W.Frag) (a a' : Addr) : It :=
  ⟨fun i H => ∃ (xs ys : List V) (x y : V), SqB b K H a xs ∧ SqB c K H a' ys ∧ xs[i]? = some x ∧ ys[i]? = some y,
    fun i H v H' => ∃ T x y, v = .ref T ∧ H T = none ∧ H' = L2.upd H T (.tup [x, y]) ∧ (∀ xs, SqB b K H a xs → xs[i]? = some x) ∧ ∀ ys, SqB c K H a' ys → ys[i]? = some y,
    fun i H => ∃ xs ys : List V, SqB b K H a xs ∧ SqB c K H a' ys ∧ i = min xs.length ys.length⟩
theorem turn_zipB {P : Program} {w : World} {K : PySem.W.Frag} {elts : List Expr} {kk : Nat} {tpos : Pos} {b c : Bool} {a a' z TI TO i1 i2 : Addr} (D : ZipSep2 z TI TO i1 i2 [i1, a] [i2, a']) (n1 : a ≠ i1) (n2 : a' ≠ i2) :
    Turn P w K (.Tuple elts kk tpos) (ItzB b c K a a') [z, TI, TO, i1, i2] z (fun i h => IsZip h z TI TO .none ∧ IsTupOf2 h TI (.ref i1) (.ref i2) ∧ (∃ x y, IsTupOf2 h TO x y) ∧ ItB b h i1 a i ∧ ItB c h i2 a' i) where
  mem := by simp
  obj := fun i h st q hq => by
    obtain ⟨hz, hTI, ⟨x, y, hTO⟩, h1, h2⟩ := st
    have e' : q = z ∨ q = TI ∨ q = TO ∨ q = i1 ∨ q = i2 := by simpa using hq
    rcases e' with rfl | rfl | rfl | rfl | rfl
    · exact ⟨_, hz, fun v q => nomatch q⟩
    · exact ⟨_, hTI, fun v q => nomatch q⟩
    · exact ⟨_, hTO, fun v q => nomatch q⟩
    · exact h1.obj
    · exact h2.obj
  keep := fun i h h' st k => by
    obtain ⟨hz, hTI, ⟨x, y, hTO⟩, h1, h2⟩ := st
    exact ⟨k z (by simp) _ hz, k TI (by simp) _ hTI, ⟨x, y, k TO (by simp) _ hTO⟩, h1.at fun o q => k i1 (by simp) o q, h2.at fun o q => k i2 (by simp) o q⟩
  item := by
    intro X hP hw hK hc i pins s σ H E I hf st hg
    subst hP hw hK
    obtain ⟨hz, hTI, ⟨x0, y0, hTO⟩, h1, h2⟩ := st
    obtain ⟨xs, ys, x, y, hqx, hqy, hx, hy⟩ := hg
    obtain ⟨its, rv, p, _⟩ := hqx.at I
    obtain ⟨its2, rv2, p2, _⟩ := hqy.at I
    obtain ⟨u, hu, ru⟩ := rv.get hx
    obtain ⟨u2, hu2, ru2⟩ := rv2.get hy
    have hzl : z < s.heap.objs.size := Heap.lt_size hz
    refine wpAny_pyNext_zipD2_item D (drawsB (A := X.A.in1) (I.ok.hd hc) b i1 a n1 its) (drawsB (A := X.A.in1) (I.ok.hd hc) c i2 a' n2 its2) hz hTI hTO ⟨h1, p⟩ ⟨h2, p2⟩ (List.getElem?_eq_some_iff.mp hu).1 (List.getElem?_eq_some_iff.mp hu2).1 fun w1 w2 h' tk e1 e2 z' TO' st1 st2 hT hsz hk => ?_
    have e1' : w1 = u := Option.some.inj (e1.symm.trans hu)
    have e2' : w2 = u2 := Option.some.inj (e2.symm.trans hu2)
    subst e1' e2'
    refine ⟨_, rfl, wpAny_letOwnedTupleGo_zip (s := { s with heap := h', toks := tk }) z' fun h'' z'' sb => ?_⟩
    have hT2 : h''.get? s.heap.objs.size = some { cls := .type "tuple", data := .seq #[w1, w2] } := (sb.2 _ (Nat.ne_of_gt hzl)).trans hT
    have new : ObjOk X.prog X.w (L2.upd H s.heap.objs.size (.tup [x, y])) h'' s.heap.objs.size (.tup [x, y]) :=
      ⟨by show 2 ≤ sizeLine; decide, [w1, w2], .cons ru (.cons ru2 .nil), ⟨_, hT2, rfl, _, rfl⟩⟩
    have I1 : Inv X pins σ (L2.upd H s.heap.objs.size (.tup [x, y])) { s with heap := h'', toks := tk } :=
      I.turnedNew (ch := [z, TI, TO, i1, i2]) (fun q o hb e => (sb.2 q (fun q' => hb (by simp [q']))).trans (hk q o (fun q' => hb (by simp [q'])) (fun q' => hb (by simp [q'])) (fun q' => hb (by simp [q'])) (fun q' => hb (by simp [q'])) e)) hf (Nat.le_refl _) new
    have iz1 : i1 ≠ z := fun e => D.zf1 (by simp [e])
    have iz2 : i2 ≠ z := fun e => D.zf2 (by simp [e])
    refine ⟨.ref s.heap.objs.size, _, I1, rfl, ⟨_, x, y, rfl, I.hok.fresh (Nat.le_refl _), rfl, fun l hl => by rw [hl.inj I hqx]; exact hx, fun l hl => by rw [hl.inj I hqy]; exact hy⟩, ⟨z'', ?_, ⟨w1, w2, ?_⟩, ?_, ?_⟩, fun q hqm => ?_⟩
    · exact (sb.2 _ D.TIz).trans (hk _ _ D.TIz D.TITO D.TIi1 D.TIi2 hTI)
    · exact (sb.2 _ D.TOz).trans TO'
    · exact st1.1.at fun o q => (sb.2 _ iz1).trans q
    · exact st2.1.at fun o q => (sb.2 _ iz2).trans q
    · have hlt : q < s.heap.objs.size := by
        have e' : q = z ∨ q = TI ∨ q = TO ∨ q = i1 ∨ q = i2 := by simpa using hqm
        rcases e' with rfl | rfl | rfl | rfl | rfl
        · exact hzl
        · exact Heap.lt_size hTI
        · exact Heap.lt_size hTO
        · exact h1.lt
        · exact h2.lt
      rw [upd_ne (Nat.ne_of_lt hlt)]
      exact (hf q hqm).1
  done := by
    intro X hP hw hK hc i pins s σ H E I hf st hg
    subst hP hw hK
    obtain ⟨hz, hTI, ⟨x0, y0, hTO⟩, h1, h2⟩ := st
    obtain ⟨xs, ys, hqx, hqy, hend⟩ := hg
    obtain ⟨its, rv, p, _⟩ := hqx.at I
    obtain ⟨its2, rv2, p2, _⟩ := hqy.at I
    have l1 := rv.length
    have l2 := rv2.length
    exact wpAny_pyNext_zipD2_end D (drawsB (A := X.A.in1) (I.ok.hd hc) b i1 a n1 its) (drawsB (A := X.A.in1) (I.ok.hd hc) c i2 a' n2 its2) hz hTI hTO ⟨h1, p⟩ ⟨h2, p2⟩ (by omega) (by omega) (by omega) fun h' tk hk => ⟨rfl, I.turnedL (t' := tk) (ch := [z, TI, TO, i1, i2]) (fun q o hb e =>
      hk q o (fun q' => hb (by simp [q'])) (fun q' => hb (by simp [q'])) (fun q' => hb (by simp [q'])) (fun q' => hb (by simp [q'])) e) hf⟩
  self := fun A i s Q E st h => wpAny_pyIter_zip st.1 h
end Mi
set_option Elab.async false
set_option linter.all false
set_option maxRecDepth 100000
set_option maxHeartbeats 2000000
namespace Mi
open PySem PySem.Spec PyProof.Rows L2

section
variable {K : PySem.W.Frag} {Z : Fr} {N N' N'' : Nat} {F P F' P' F'' P'' : Addr → Prop} {env env' env'' e0 : Ev} {σ : L2.St} {H H' H'' H0 : Hp} {F0 P0 : Addr → Prop}
/-! ### what is walked -/
def walkD : D → Option (List D)
  | .tup l => some l
  | .lst l => some l
  | .scr ns => some (ns.map .int)
  | _ => none
/-- a frozen one stays as it is -/
def Stays (b : Bool) (K : PySem.W.Frag) (F P : Addr → Prop) (H : Hp) (a : Addr) (xs : List V) : Prop := ∀ F' P' H', Mon K F P H F' P' H' → SqB b K H' a xs
theorem RV.walk {d : D} {l : List D} {v : V} (r : RV K F P H d v) (e : walkD d = some l) : ∃ a b xs, v = .ref a ∧ RVs K F P H l xs ∧ Stays b K F P H a xs := by
  cases d with
  | tup l' =>
    cases e
    simp only [RV] at r
    obtain ⟨a, vs, e, q, rs⟩ := r
    exact ⟨a, false, vs, e, rs, fun F' P' H' m => .of (m.tup a vs q)⟩
  | lst l' =>
    cases e
    simp only [RV] at r
    obtain ⟨a, vs, e, f, q, rs⟩ := r
    exact ⟨a, true, vs, e, rs, fun F' P' H' m => .of (m.lst a vs f q)⟩
  | scr ns =>
    cases e
    simp only [RV] at r
    obtain ⟨a, e, q⟩ := r
    refine ⟨a, true, ns.map V.int, e, RVs.ints, fun F' P' H' m => ?_⟩
    rcases q with ⟨o, q⟩ | q
    · exact .inl (.inr ⟨o, m.frz a o _ q⟩)
    · exact .inr q
  | _ => cases e
theorem Stays.at {b : Bool} {a : Addr} {xs : List V} (h : Stays b K F P H a xs) : SqB b K H a xs := h F P H Mon.refl
def RWalk (K : PySem.W.Frag) (x : V) (H : Hp) (a : Addr) (b : Bool) (xs : List V) : Prop := x = .ref a ∧ SqB b K H a xs
def iSeq (m : M) : MI := fun env => (m env).bind fun r => match fz r.2 r.1 with
  | some (d, env') => match walkD d with
    | some l => .ret (l, env')
    | none => .fail
  | none => .fail
theorem yield_seq {b : Bool} {a : Addr} {l : List D} {xs : List V} (r : RVs K F P H l xs) (st : Stays b K F P H a xs) : YieldsD K (if b then Itl K a else Itt K a) l F P H := by
  intro F' P' H' m
  have sq := st F' P' H' m
  have r' := r.mono m
  cases b with
  | true =>
    refine ⟨⟨xs, sq, by rw [r.length]; exact Nat.le_refl _⟩, fun i d e => ?_⟩
    obtain ⟨x, ex, rx⟩ := r'.get e
    refine ⟨⟨xs, x, sq, ex⟩, fun y H'' ⟨eH, f⟩ => .inl ⟨eH, ?_⟩⟩
    have := (f xs sq).symm.trans ex
    cases this
    exact rx
  | false =>
    refine ⟨⟨xs, sq, by rw [r.length]; exact Nat.le_refl _⟩, fun i d e => ?_⟩
    obtain ⟨x, ex, rx⟩ := r'.get e
    refine ⟨⟨xs, x, sq, ex⟩, fun y H'' ⟨eH, f⟩ => .inl ⟨eH, ?_⟩⟩
    have := (f xs sq).symm.trans ex
    cases this
    exact rx
theorem pi_seqM {X : Cx} {tg l : Expr} {m : M} (hK : X.K = K) (hl : PE X l (tM K Z m)) : PI X tg l (tI K Z (iSeq m)) := by
  subst hK
  constructor
  intro pins s σ H R I ⟨N, F, P, env, S, h⟩
  refine thn (hl.run pins s σ H (fun x H1 => ∃ a b xs, x = .ref a ∧ SqB b X.K H1 a xs ∧ (xs.length ≤ sizeLine → R (if b then Itl X.K a else Itt X.K a) H1)) I ?_) fun v s1 ⟨x, H1, I1, r1, q1⟩ => ?_
  · refine ⟨N, F, P, env, S, T.ok_mono (fun N1 r1 q1 => ?_) (T.ok_bind h)⟩
    intro v H1 F1 P1 E1 S1 R1 Y1
    split at q1
    · rename_i d env1 e1
      obtain ⟨F2, E2, S2, rv⟩ := R1.freeze E1 S1 Y1 e1
      split at q1
      · rename_i ds e2
        obtain ⟨a, b, xs, e, rs, st⟩ := rv.walk e2
        exact ⟨a, b, xs, e, st.at, fun hz => q1 _ H1 F2 P1 E2 S2 (yield_seq rs st) (by rw [← rs.length]; exact hz)⟩
      · exact q1.elim
    · exact q1.elim
  · obtain ⟨a, b, xs, rfl, sq, q⟩ := q1
    obtain rfl : v = .ref a := r1
    obtain ⟨its, rv, p, hz⟩ := sq.at I1
    have q := q hz
    cases b with
    | true =>
      refine wpAny_pyIter_list (show s1.heap.IsList a its.toArray from p) ?_
      refine ⟨s1.heap.objs.size, [s1.heap.objs.size], _, _, H1, rfl, I1.kept (t' := s1.toks) fun b o e => Heap.get?_push_of_some _ e, turn_list a _, ⟨_, Heap.get?_push_size _ rfl, rfl, rfl⟩, fun b hb => ?_, q⟩
      have e : b = s1.heap.objs.size := by simpa using hb
      subst e
      exact I1.fpOk (Nat.le_refl _) (I1.hok.fresh (Nat.le_refl _))
    | false =>
      refine wpAny_pyIter_tuple (show s1.heap.IsTuple a its.toArray from p) ?_
      refine ⟨s1.heap.objs.size, [s1.heap.objs.size], _, _, H1, rfl, I1.kept (t' := s1.toks) fun b o e => Heap.get?_push_of_some _ e, turn_tuple a _, ⟨_, Heap.get?_push_size _ rfl, rfl, rfl⟩, fun b hb => ?_, q⟩
      have e : b = s1.heap.objs.size := by simpa using hb
      subst e
      exact I1.fpOk (Nat.le_refl _) (I1.hok.fresh (Nat.le_refl _))
/-! ### ranges -/
def rgD (a b : Int) : List D := (List.range (b - a).toNat).map fun i => .int (a + (i : Nat))
def rgOk (a b : Int) : Bool := decide (-4611686018427387904 ≤ a ∧ a < 4611686018427387904 ∧ -4611686018427387904 ≤ b ∧ b < 4611686018427387904 ∧ (b - a).toNat ≤ 16777216)
def rg2 (l : List D) : Option (Int × Int) := match l with
  | [.int j] => if rgOk 0 j then some (0, j) else none
  | [.int i, .int j] => if rgOk i j then some (i, j) else none
  | _ => none
def iRng (ms : MH) : MI := fun env => (ms env).bind fun r => match rss r.2 r.1 with
  | some ds => match rg2 ds with
    | some (a, b) => .ret (rgD a b, r.2)
    | none => .fail
  | none => .fail
theorem rgOk_of {a b : Int} (h : rgOk a b = true) : RgOk a b := by
  have := of_decide_eq_true h
  exact ⟨by omega, by omega, by omega, by omega, by omega⟩
theorem yield_rng {a b : Int} {n : Nat} (e : n = (b - a).toNat) : YieldsD K (Itr a n) (rgD a b) F P H := by
  intro F' P' H' m
  subst e
  refine ⟨by show (b - a).toNat ≤ (rgD a b).length; unfold rgD; simp, fun i d e => ?_⟩
  unfold rgD at e
  rw [List.getElem?_map] at e
  have hi : i < (b - a).toNat := by
    apply Classical.byContradiction
    intro hn
    rw [List.getElem?_eq_none (by simpa using hn)] at e
    cases e
  rw [List.getElem?_range hi] at e
  have e' : D.int (a + (i : Nat)) = d := Option.some.inj e
  refine ⟨hi, fun x H'' ⟨eH, ex⟩ => .inl ⟨eH, ?_⟩⟩
  rw [← e', ex]
  simp only [RV]
theorem rgD_len (a b : Int) : (rgD a b).length = (b - a).toNat := by unfold rgD; simp
theorem rngLen {a b : Int} (h : rgOk a b = true) : (rgD a b).length ≤ sizeLine := by
  rw [rgD_len, sizeLine_eq]
  have := of_decide_eq_true h
  omega
theorem rg2_vs {ds : List D} {a b : Int} {vs : List V} (e : rg2 ds = some (a, b)) (r : RCs K F P H ds vs) : rgOk a b = true ∧ ((a = 0 ∧ vs = [.int b]) ∨ vs = [.int a, .int b]) := by
  unfold rg2 at e
  split at e
  · split at e
    · rename_i h
      cases e
      obtain ⟨v, rfl, r1⟩ := r.one
      rw [r1.int]
      exact ⟨h, .inl ⟨rfl, rfl⟩⟩
    · cases e
  · split at e
    · rename_i h
      cases e
      obtain ⟨v, u, rfl, r1, r2⟩ := r.two
      rw [r1.int, r2.int]
      exact ⟨h, .inr rfl⟩
    · cases e
  · cases e
def rng1 (l : List D) : Bool := match l with
  | [_] => true
  | _ => false
theorem pi_rng1M {X : Cx} {tg a : Expr} {ms : MH} {p pos : Pos} (hK : X.K = K) (hg : Gl X "range") (hm : X.mg "range" = none) (ha : PA X [a] (tH K Z ms)) (hn : HLen 1 ms) (hs : starEach [a] X.env = [(false, eval a X.env)] := by rfl) : PI X tg (.Call (.Name "range" p) [a] [] pos) (tI K Z (iRng ms)) := by
  subst hK
  refine PI.imp (pi_range1 (tg := tg) hg hm ha hs) fun σ H R ⟨N, F, P, env, S, h⟩ => ?_
  refine ⟨N, F, P, env, S, T.ok_mono (fun N1 r1 ⟨l1, q1⟩ => ?_) (hn _ _ _ (T.ok_bind h))⟩
  intro vs H1 F1 P1 E1 S1 R1 Y1 A1
  split at q1
  · rename_i ds e1
    split at q1
    · rename_i x y e2
      obtain ⟨ok, hv⟩ := rg2_vs e2 (R1.rcs S1 e1)
      have hl := R1.length
      rw [l1] at hl
      rcases hv with ⟨rfl, rfl⟩ | rfl
      · have ok' := rgOk_of ok
        exact ⟨y, rfl, ok'.2.2.1, ok'.2.2.2.1, q1 _ H1 F1 P1 E1 S1 (yield_rng (by omega)) (rngLen ok)⟩
      · simp at hl
    · exact q1.elim
  · exact q1.elim
theorem pi_rng2M {X : Cx} {tg a b : Expr} {ms : MH} {p pos : Pos} (hK : X.K = K) (hg : Gl X "range") (hm : X.mg "range" = none) (ha : PA X [a, b] (tH K Z ms)) (hn : HLen 2 ms) (hs : starEach [a, b] X.env = [(false, eval a X.env), (false, eval b X.env)] := by rfl) (hs2 : starEach [b] X.env = [(false, eval b X.env)] := by rfl) :
    PI X tg (.Call (.Name "range" p) [a, b] [] pos) (tI K Z (iRng ms)) := by
  subst hK
  refine PI.imp (pi_range2 (tg := tg) hg hm ha hs hs2) fun σ H R ⟨N, F, P, env, S, h⟩ => ?_
  refine ⟨N, F, P, env, S, T.ok_mono (fun N1 r1 ⟨l1, q1⟩ => ?_) (hn _ _ _ (T.ok_bind h))⟩
  intro vs H1 F1 P1 E1 S1 R1 Y1 A1
  split at q1
  · rename_i ds e1
    split at q1
    · rename_i x y e2
      obtain ⟨ok, hv⟩ := rg2_vs e2 (R1.rcs S1 e1)
      have hl := R1.length
      rw [l1] at hl
      rcases hv with ⟨rfl, rfl⟩ | rfl
      · simp at hl
      · have ok' := rgOk_of ok
        exact ⟨x, y, rfl, ⟨ok'.1, ok'.2.1, ok'.2.2.1, ok'.2.2.2.1⟩, q1 _ H1 F1 P1 E1 S1 (yield_rng rfl) (rngLen ok)⟩
    · exact q1.elim
  · exact q1.elim
/-! ### enumerate -/
def enumL : Nat → List D → List D
  | _, [] => []
  | i, d :: ds => .tup [.int i, d] :: enumL (i + 1) ds
theorem enumL_len : ∀ (i : Nat) (l : List D), (enumL i l).length = l.length
  | _, [] => rfl
  | i, d :: ds => by simp [enumL, enumL_len]
theorem enumL_get : ∀ (k : Nat) (l : List D) (i : Nat) (e : D), (enumL k l)[i]? = some e → ∃ d, l[i]? = some d ∧ e = .tup [.int ((k + i : Nat) : Int), d]
  | k, [], i, e, h => by simp [enumL] at h
  | k, d :: ds, 0, e, h => by
    simp [enumL] at h
    exact ⟨d, rfl, by rw [← h]; rfl⟩
  | k, d :: ds, i + 1, e, h => by
    obtain ⟨d', h1, h2⟩ := enumL_get (k + 1) ds i e (by simpa [enumL] using h)
    refine ⟨d', by simpa using h1, ?_⟩
    rw [h2, show k + 1 + i = k + (i + 1) by omega]
def iEnumM (ms : MH) : MI := fun env => (ms env).bind fun r => match fzs r.2 r.1 with
  | some ([d], env') => match walkD d with
    | some l => .ret (enumL 0 l, env')
    | none => .fail
  | _ => .fail
theorem yield_enum {b : Bool} {a : Addr} {l : List D} {xs : List V} (r : RVs K F P H l xs) (st : Stays b K F P H a xs) : YieldsD K (IteB b K a) (enumL 0 l) F P H := by
  intro F' P' H' m
  have sq := st F' P' H' m
  have r' := r.mono m
  refine ⟨⟨xs, sq, by rw [r.length, enumL_len]⟩, fun i e he => ?_⟩
  obtain ⟨d, hd, rfl⟩ := enumL_get 0 l i e he
  obtain ⟨x, ex, rx⟩ := r'.get hd
  refine ⟨⟨xs, x, sq, ex⟩, fun y H'' ⟨T', x', e1, e2, e3, f⟩ => .inr ⟨T', [.int (i : Nat), x'], _, e1, e2, e3, rfl, ?_⟩⟩
  have := (f xs sq).symm.trans ex
  cases this
  refine .cons ?_ (.cons rx .nil)
  simp only [RV, Nat.zero_add]
theorem pi_enumM {X : Cx} {e : Expr} {ms : MH} {p pos tpos : Pos} {elts : List Expr} {kk : Nat} (hK : X.K = K) (hg : Gl X "enumerate") (hm : X.mg "enumerate" = none) (ha : PA X [e] (tH K Z ms)) (hs : starEach [e] X.env = [(false, eval e X.env)] := by rfl) :
    PI X (.Tuple elts kk tpos) (.Call (.Name "enumerate" p) [e] [] pos) (tI K Z (iEnumM ms)) := by
  subst hK
  constructor
  intro pins s σ H R I ⟨N, F, P, env, S, h⟩
  refine Call_ (ld_blt I hg hm boot_enumerate (PyProof.Rows.callWith_type1 (thn (ha.run pos pins s σ H (fun vs H1 => ∃ a b xs, vs = [.ref a] ∧ SqB b X.K H1 a xs ∧ (xs.length ≤ sizeLine → R (IteB b X.K a) H1)) I ?_) fun us s1 ⟨vs, H1, I1, r1, q1⟩ => ?_) hs rfl))
  · refine ⟨N, F, P, env, S, T.ok_mono (fun N1 r1 q1 => ?_) (T.ok_bind h)⟩
    intro vs H1 F1 P1 E1 S1 R1 Y1 A1
    split at q1
    · rename_i d env1 e1
      obtain ⟨F2, E2, S2, rv, _⟩ := R1.freeze' E1 S1 Y1 e1
      split at q1
      · rename_i ds e2
        obtain ⟨v, vr, rfl, rv1, rvr⟩ := rv.uncons
        rw [rvr.unnil]
        obtain ⟨a, b, xs, e, rs, st⟩ := rv1.walk e2
        subst e
        exact ⟨a, b, xs, rfl, st.at, fun hz => q1 _ H1 F2 P1 E2 S2 (yield_enum rs st) (by rw [enumL_len, ← rs.length]; exact hz)⟩
      · exact q1.elim
    · exact q1.elim
  · obtain ⟨a, b, xs, rfl, sq, q⟩ := q1
    rw [Vals.ref1 r1]
    obtain ⟨its, rv, p', hz⟩ := sq.at I1
    have q := q hz
    refine call_enumB p' fun h' he hit hk => wpAny_pyIter_enum he ?_
    have I2 : Inv X pins σ H1 { s1 with heap := h' } := I1.kept (t' := s1.toks) hk
    have hlt := p'.lt
    refine ⟨s1.heap.objs.size + 1, [s1.heap.objs.size + 1, s1.heap.objs.size], _, _, H1, rfl, I2, turn_enumB b a (s1.heap.objs.size + 1) s1.heap.objs.size (Nat.ne_of_lt hlt) (Nat.ne_of_gt (Nat.lt_succ_of_lt hlt)), ⟨⟨.none, he⟩, hit, Nat.succ_ne_self _⟩, fun c hb => ?_, q⟩
    have e' : c = s1.heap.objs.size + 1 ∨ c = s1.heap.objs.size := by simpa using hb
    have hle : s1.heap.objs.size ≤ c := by
      rcases e' with z | z
      · rw [z]; exact Nat.le_add_right _ _
      · rw [z]; exact Nat.le_refl _
    exact I1.fpOk hle (I1.hok.fresh hle)
/-! ### zip -/
def zipL : List D → List D → List D
  | x :: xs, y :: ys => .tup [x, y] :: zipL xs ys
  | _, _ => []
theorem zipL_len : ∀ (l l' : List D), (zipL l l').length = min l.length l'.length
  | [], l' => by simp [zipL]
  | x :: xs, [] => by simp [zipL]
  | x :: xs, y :: ys => by simp [zipL, zipL_len xs ys]
theorem zipL_get : ∀ (l l' : List D) (i : Nat) (e : D), (zipL l l')[i]? = some e → ∃ d d', l[i]? = some d ∧ l'[i]? = some d' ∧ e = .tup [d, d']
  | [], l', i, e, h => by simp [zipL] at h
  | x :: xs, [], i, e, h => by simp [zipL] at h
  | x :: xs, y :: ys, 0, e, h => by
    simp [zipL] at h
    exact ⟨x, y, rfl, rfl, h.symm⟩
  | x :: xs, y :: ys, i + 1, e, h => by
    obtain ⟨d, d', h1, h2, h3⟩ := zipL_get xs ys i e (by simpa [zipL] using h)
    exact ⟨d, d', by simpa using h1, by simpa using h2, h3⟩
def iZipM (ms : MH) : MI := fun env => (ms env).bind fun r => match fzs r.2 r.1 with
  | some ([d, d'], env') => match walkD d, walkD d' with
    | some l, some l' => .ret (zipL l l', env')
    | _, _ => .fail
  | _ => .fail
theorem yield_zip {b b' : Bool} {a a' : Addr} {l l' : List D} {xs ys : List V} (r : RVs K F P H l xs) (st : Stays b K F P H a xs) (r2 : RVs K F P H l' ys) (st2 : Stays b' K F P H a' ys) : YieldsD K (ItzB b b' K a a') (zipL l l') F P H := by
  intro F' P' H' m
  have sq := st F' P' H' m
  have sq2 := st2 F' P' H' m
  have r' := r.mono m
  have r2' := r2.mono m
  refine ⟨⟨xs, ys, sq, sq2, by rw [r.length, r2.length, zipL_len]⟩, fun i e he => ?_⟩
  obtain ⟨d, d', hd, hd', rfl⟩ := zipL_get l l' i e he
  obtain ⟨x, ex, rx⟩ := r'.get hd
  obtain ⟨y, ey, ry⟩ := r2'.get hd'
  refine ⟨⟨xs, ys, x, y, sq, sq2, ex, ey⟩, fun v H'' ⟨T', x', y', e1, e2, e3, f, f'⟩ => .inr ⟨T', [x', y'], _, e1, e2, e3, rfl, ?_⟩⟩
  have := (f xs sq).symm.trans ex
  cases this
  have := (f' ys sq2).symm.trans ey
  cases this
  exact .cons rx (.cons ry .nil)
theorem notIn2 {x a b : Nat} (h1 : x ≠ a) (h2 : x ≠ b) : x ∉ [a, b] := by simp [h1, h2]
theorem zipSep {n a a' : Nat} (h : a < n) (h' : a' < n) : ZipSep2 (n + 4) (n + 2) (n + 3) n (n + 1) [n, a] [n + 1, a'] where
  TIz := (show (n + 2 : Nat) ≠ n + 4 by omega)
  TOz := (show (n + 3 : Nat) ≠ n + 4 by omega)
  TITO := (show (n + 2 : Nat) ≠ n + 3 by omega)
  TIi1 := (show (n + 2 : Nat) ≠ n by omega)
  mem1 := by simp
  zf1 := notIn2 (by omega) (by omega)
  Tf1 := notIn2 (by omega) (by omega)
  TIi2 := (show (n + 2 : Nat) ≠ n + 1 by omega)
  mem2 := by simp
  zf2 := notIn2 (by omega) (by omega)
  Tf2 := notIn2 (by omega) (by omega)
  sep1_2 := notIn2 (by omega) (by omega)
  sep2_1 := notIn2 (by omega) (by omega)
theorem pi_zipM {X : Cx} {e e2 : Expr} {ms : MH} {p pos tpos : Pos} {elts : List Expr} {kk : Nat} (hK : X.K = K) (hg : Gl X "zip") (hm : X.mg "zip" = none) (ha : PA X [e, e2] (tH K Z ms))
    (hs : starEach [e, e2] X.env = (false, eval e X.env) :: starEach [e2] X.env := by rfl) (hpl : (backTo pos (starEach [e2] X.env)).any (·.1) = false := by rfl) :
    PI X (.Tuple elts kk tpos) (.Call (.Name "zip" p) [e, e2] [] pos) (tI K Z (iZipM ms)) := by
  subst hK
  constructor
  intro pins s σ H R I ⟨N, F, P, env, S, h⟩
  refine Call_ (ld_blt I hg hm PyProof.Rows.boot_zip (PyProof.Rows.callWith_type1 (thn (ha.run pos pins s σ H (fun vs H1 => ∃ a b xs a' b' ys, vs = [.ref a, .ref a'] ∧ SqB b X.K H1 a xs ∧ SqB b' X.K H1 a' ys ∧ (xs.length ≤ sizeLine → R (ItzB b b' X.K a a') H1)) I ?_) fun us s1 ⟨vs, H1, I1, r1, q1⟩ => ?_) hs hpl))
  · refine ⟨N, F, P, env, S, T.ok_mono (fun N1 r1 q1 => ?_) (T.ok_bind h)⟩
    intro vs H1 F1 P1 E1 S1 R1 Y1 A1
    split at q1
    · rename_i d d' env1 e1
      obtain ⟨F2, E2, S2, rv, _⟩ := R1.freeze' E1 S1 Y1 e1
      split at q1
      · rename_i l l' e2 e3
        obtain ⟨v, vr, rfl, rv1, rvr⟩ := rv.uncons
        obtain ⟨v', vr', rfl, rv1', rvr'⟩ := rvr.uncons
        rw [rvr'.unnil]
        obtain ⟨a, b, xs, e, rs, st⟩ := rv1.walk e2
        obtain ⟨a', b', ys, e', rs', st'⟩ := rv1'.walk e3
        subst e; subst e'
        exact ⟨a, b, xs, a', b', ys, rfl, st.at, st'.at, fun hz => q1 _ H1 F2 P1 E2 S2 (yield_zip rs st rs' st') (by rw [zipL_len, ← rs.length]; omega)⟩
      · exact q1.elim
    · exact q1.elim
  · obtain ⟨a, b, xs, a', b', ys, rfl, sq, sq2, q⟩ := q1
    cases r1 with
    | cons r rr =>
      cases rr with
      | cons r' rr =>
        cases rr
        cases r
        cases r'
        obtain ⟨its, rv, p1, hz⟩ := sq.at I1
        obtain ⟨its2, rv2, p2, _⟩ := sq2.at I1
        have q := q hz
        have fresh5 : ∀ c, c ∈ [s1.heap.objs.size + 4, s1.heap.objs.size + 2, s1.heap.objs.size + 3, s1.heap.objs.size, s1.heap.objs.size + 1] → FpOk X pins H1 c := fun c hcm => by
          have hle : s1.heap.objs.size ≤ c := by
            simp only [List.mem_cons, List.not_mem_nil, or_false] at hcm
            rcases hcm with z | z | z | z | z <;> (rw [z]; first | exact Nat.le_add_right _ _ | exact Nat.le_refl _)
          exact I1.fpOk hle (I1.hok.fresh hle)
        refine zip_begins2 (AtB.begins b a its) (AtB.begins b' a' its2) p1 p2 fun h' hz' hTI hTO h1 h2 hsz hk => wpAny_pyIter_zip hz' ?_
        have I2 : Inv X pins σ H1 { s1 with heap := h' } := I1.kept (t' := s1.toks) hk
        exact ⟨s1.heap.objs.size + 4, [s1.heap.objs.size + 4, s1.heap.objs.size + 2, s1.heap.objs.size + 3, s1.heap.objs.size, s1.heap.objs.size + 1], _, _, H1, rfl, I2, turn_zipB (zipSep p1.lt p2.lt) (Nat.ne_of_lt p1.lt) (Nat.ne_of_lt (Nat.lt_succ_of_lt p2.lt)), ⟨hz', hTI, ⟨_, _, hTO⟩, .new h1, .new h2⟩, fresh5, q⟩
end
end Mi
set_option Elab.async false
set_option linter.all false
set_option maxRecDepth 100000
set_option maxHeartbeats 2000000
namespace Mi
open PySem PySem.Spec PyProof.Rows L2

section
variable {K : PySem.W.Frag} {Z : Fr} {N N' N'' : Nat} {F P F' P' F'' P'' : Addr → Prop} {env env' env'' e0 : Ev} {σ : L2.St} {H H' H'' H0 : Hp} {F0 P0 : Addr → Prop}
/-- the list in a slot changes -/
theorem StR.mut {i : Nat} {a : Addr} {l l' : List D} {ws : List V} (S : StR K Z N F P env σ H) (e : env[i]? = some (some (true, .lst l))) (ea : σ[i]? = some (some (.ref a)))
    (r : ∀ H', Mon K F P H F P H' → RVs K F P H' l' ws) :
    StR K Z N F P (env.set i (some (true, .lst l'))) σ (L2.upd H a (.lst ws)) ∧ Mon K F P H F P (L2.upd H a (.lst ws)) := by
  obtain ⟨a', ea', ⟨vs, ha, rs⟩, nf, np, h0⟩ := S.ow i _ e
  rw [ea] at ea'; cases ea'
  have hi := (List.getElem?_eq_some_iff.mp e).1
  have kp : ∀ b u, b ≠ a → H b = some u → L2.upd H a (.lst ws) b = some u := fun b u h e => by rw [upd_ne h]; exact e
  have m : Mon K F P H F P (L2.upd H a (.lst ws)) := ⟨fun _ h => h, fun _ h => h, fun b xs h => kp _ _ (fun z => by subst z; rw [ha] at h; cases h) h, fun b xs f h => kp _ _ (fun z => nf (z ▸ f)) h, fun b o u h => kp _ _ (fun z => by subst z; rw [ha] at h; cases h) h⟩
  have ow' : ∀ (j : Nat) x, (env.set i (some (true, .lst l')))[j]? = some (some (true, x)) → (j = i ∧ x = .lst l') ∨ (j ≠ i ∧ env[j]? = some (some (true, x))) := fun j x q => by
    by_cases hj : i = j
    · subst hj; rw [List.getElem?_set_self hi] at q; cases q; exact .inl ⟨rfl, rfl⟩
    · rw [List.getElem?_set_ne hj] at q; exact .inr ⟨fun z => hj z.symm, q⟩
  refine ⟨{ len := by simpa using S.len, fz := fun j d q => ?_, ow := fun j d q => ?_, inj := fun j k d d' q q' z => ?_, same := fun b o h p => ?_, frF := S.frF, frP := S.frP, subF := S.subF, subP := S.subP, trF := fun b h => ?_, pot := fun b h => ?_, dis := S.dis, nle := S.nle }, m⟩
  · have q' : env[j]? = some (some (false, d)) := by
      by_cases hj : i = j
      · subst hj; rw [List.getElem?_set_self hi] at q; cases q
      · rw [List.getElem?_set_ne hj] at q; exact q
    obtain ⟨v, e1, r1⟩ := S.fz j d q'
    exact ⟨v, e1, r1.mono m⟩
  · rcases ow' j d q with ⟨rfl, rfl⟩ | ⟨hj, q'⟩
    · exact ⟨a, ea, ⟨ws, upd_same, r _ m⟩, nf, np, h0⟩
    · obtain ⟨b, e1, o, nf', np', h0'⟩ := S.ow j d q'
      have hb : b ≠ a := fun z => hj (S.inj j i _ _ q' e (by rw [e1, ea, z]))
      exact ⟨b, e1, o.mono m fun vs z => kp _ _ hb z, nf', np', h0'⟩
  · have g : ∀ (j : Nat) x, (env.set i (some (true, .lst l')))[j]? = some (some (true, x)) → ∃ y, env[j]? = some (some (true, y)) := fun j x q => by
      rcases ow' j x q with ⟨rfl, _⟩ | ⟨_, q'⟩
      · exact ⟨_, e⟩
      · exact ⟨_, q'⟩
    obtain ⟨y, hy⟩ := g j d q
    obtain ⟨y', hy'⟩ := g k d' q'
    exact S.inj j k _ _ hy hy' z
  · refine kp _ _ (fun z => ?_) (S.same b o h p)
    subst z; rw [h0] at h; cases h
  · obtain ⟨o, e⟩ := S.trF b h
    exact ⟨o, kp _ _ (fun z => nf (z ▸ h)) e⟩
  · have q := S.pot b h
    have hb : b ≠ a := fun z => np (by rw [← z]; exact h)
    rw [upd_ne hb]; exact q
theorem Ext.mut {i : Nat} {a : Addr} {l l' : List D} {o : HO} (E : Ext σ e0 F0 P0 H0 env F P H) (e : env[i]? = some (some (true, .lst l))) (ea : σ[i]? = some (some (.ref a))) :
    Ext σ e0 F0 P0 H0 (env.set i (some (true, .lst l'))) F P (L2.upd H a o) := by
  have hi := (List.getElem?_eq_some_iff.mp e).1
  have hO : Owned e0 σ a := E.own a ⟨i, _, e, ea⟩
  have E' := E.upd (a := a) (o := o) (.inr hO)
  refine ⟨E'.fF, E'.pP, fun b ⟨j, d, q, q'⟩ => ?_, fun j fl d q => ?_, E'.keep, E'.newF, E'.newP, E'.trk⟩
  · by_cases hj : i = j
    · subst hj; rw [ea] at q'; cases q'; exact hO
    · rw [List.getElem?_set_ne hj] at q; exact E.own b ⟨j, d, q, q'⟩
  · obtain ⟨fl', d', q'⟩ := E.slot j fl d q
    by_cases hj : i = j
    · subst hj; exact ⟨true, _, List.getElem?_set_self hi⟩
    · exact ⟨fl', d', by rw [List.getElem?_set_ne hj]; exact q'⟩
/-! ### a name's list is changed by a method -/
def eMut (g : List D → List D → Option (List D × D)) (i : Nat) (ms : MH) : M := fun env => match env[i]? with
  | some (some (true, _)) => (ms env).bind fun r => match fzs r.2 r.1 with
    | some (ds, env') => match env'[i]? with
      | some (some (true, .lst l)) => match g l ds with
        | some (l', d) => .ret (.val d, env'.set i (some (true, .lst l')))
        | none => .fail
      | _ => .fail
    | none => .fail
  | _ => .fail
def OpMut (K : PySem.W.Frag) (r : V → List V → Hp → VK → Prop) (g : List D → List D → Option (List D × D)) : Prop := ∀ {F P : Addr → Prop} {H : Hp} {a : Addr} {l ds l' : List D} {d : D} {vs xs : List V} {Q : VK},
  H a = some (.lst vs) → RVs K F P H l vs → RVs K F P H ds xs → g l ds = some (l', d) → (∀ ws v, (∀ H', Mon K F P H F P H' → RVs K F P H' l' ws ∧ RV K F P H' d v) → Q v (L2.upd H a (.lst ws))) → r (.ref a) xs H Q
theorem eMut_ok {r : V → List V → Hp → VK → Prop} {g : List D → List D → Option (List D × D)} {i : Nat} {ms : MH} {Q : VK} (hr : OpMut K r g) (h : tM K Z (eMut g i ms) σ H Q) : tBM K "list" r (tVar i) (tH K Z ms) σ H Q := by
  obtain ⟨N, F, P, env, S, h⟩ := h
  unfold eMut at h
  split at h
  · rename_i d0 e0
    obtain ⟨a, ea, ow, nf, np, h0⟩ := S.ow i _ e0
    obtain ⟨vs0, ha0⟩ := ow.lst_of
    refine ⟨.ref a, ea, .inl ⟨rfl, vs0, .of ha0⟩, N, F, P, env, S, T.ok_mono (fun N1 r1 q1 => ?_) (T.ok_bind h)⟩
    intro xs H1 F1 P1 E1 S1 R1 Y1 A1
    split at q1
    · rename_i ds env1 e1
      obtain ⟨F2, E2, S2, rv⟩ := R1.freeze E1 S1 Y1 e1
      split at q1
      · rename_i l e2
        obtain ⟨a', ea', ⟨vs, ha, rs⟩, nf2, np2, h02⟩ := S2.ow i _ e2
        rw [ea] at ea'; cases ea'
        split at q1
        · rename_i l' d e3
          refine hr ha rs rv e3 fun ws v hw => ?_
          obtain ⟨S3, m⟩ := S2.mut e2 ea fun H' m => (hw H' m).1
          exact q1 v _ F2 P1 (E2.mut e2 ea) S3 (hw _ m).2 trivial
        · exact q1.elim
      · exact q1.elim
    · exact q1.elim
  · exact h.elim
theorem hNil_nil {Q : List V → Hp → Prop} (h : tH K Z hNil σ H Q) : Q [] H := hNil_ok h
theorem eMut0_ok {r : V → List V → Hp → VK → Prop} {g : List D → List D → Option (List D × D)} {i : Nat} {Q : VK} (hr : OpMut K r g) (h : tM K Z (eMut g i hNil) σ H Q) : tBM0 K "list" r (tVar i) σ H Q := by
  obtain ⟨x, ex, ty, q⟩ := eMut_ok hr h
  exact ⟨x, ex, ty, hNil_nil q⟩
def gAppend (l ds : List D) : Option (List D × D) := match ds with
  | [d] => if l.length < 16777216 then some (l ++ [d], .non) else none
  | _ => none
def gExtend (l ds : List D) : Option (List D × D) := match ds with
  | [.lst e] => if l.length + e.length ≤ 16777216 then some (l ++ e, .non) else none
  | _ => none
def gPop0 (l ds : List D) : Option (List D × D) := match ds, l[l.length - 1]? with
  | [], some d => some (l.dropLast, d)
  | _, _ => none
def gPop1 (l ds : List D) : Option (List D × D) := match ds with
  | [.int i] => match L2.ixN l.length i with
    | some k => match l[k]? with
      | some d => if l.length ≤ 16777216 then some (l.eraseIdx k, d) else none
      | none => none
    | none => none
  | _ => none
theorem op_append : OpMut K rAppend gAppend := by
  intro F P H a l ds l' d vs xs Q ha rs rd e q
  unfold gAppend at e
  split at e
  · split at e
    · rename_i d hz
      cases e
      obtain ⟨v, vr, rfl, rv, rr⟩ := rd.uncons
      rw [rr.unnil]
      refine ⟨a, vs, v, rfl, rfl, ha, by rw [rs.length, sizeLine_eq]; exact hz, q _ _ fun H' m => ⟨(rs.mono m).append (.cons (rv.mono m) .nil), by simp only [RV]⟩⟩
    · cases e
  · cases e
theorem op_extend : OpMut K rExtend gExtend := by
  intro F P H a l ds l' d vs xs Q ha rs rd e q
  unfold gExtend at e
  split at e
  · split at e
    · rename_i es hz
      cases e
      obtain ⟨v, vr, rfl, rv, rr⟩ := rd.uncons
      rw [rr.unnil]
      simp only [RV] at rv
      obtain ⟨b, zs, rfl, f, hb, rz⟩ := rv
      refine ⟨a, b, vs, zs, rfl, rfl, ha, hb, by rw [rs.length, rz.length, sizeLine_eq]; exact hz, q _ _ fun H' m => ⟨(rs.mono m).append (rz.mono m), by simp only [RV]⟩⟩
    · cases e
  · cases e
theorem op_pop0 : OpMut K rPop gPop0 := by
  intro F P H a l ds l' d vs xs Q ha rs rd e q
  unfold gPop0 at e
  split at e
  · rename_i d' e2
    cases e
    rw [rd.unnil]
    obtain ⟨v, ev, rv⟩ := rs.get e2
    rw [← rs.length] at ev
    exact ⟨a, vs, v, rfl, rfl, ha, ev, q _ _ fun H' m => ⟨(rs.mono m).dropLast, rv.mono m⟩⟩
  · cases e
theorem op_pop1 : OpMut K rPopAt gPop1 := by
  intro F P H a l ds l' d vs xs Q ha rs rd e q
  unfold gPop1 at e
  split at e
  · rename_i i
    split at e
    · rename_i k e1
      split at e
      · rename_i d' e2
        split at e
        · rename_i hz
          cases e
          obtain ⟨v, vr, rfl, rv, rr⟩ := rd.uncons
          rw [rr.unnil]
          simp only [RV] at rv
          subst rv
          obtain ⟨y, ey, ry⟩ := rs.get e2
          obtain ⟨h1, h2, h3, h4⟩ := ixN_seq e1
          exact ⟨a, vs, i, k, y, rfl, rfl, ha, by omega, by omega, by rw [rs.length]; exact h1, ey, q _ _ fun H' m => ⟨(rs.mono m).eraseIdx k, ry.mono m⟩⟩
        · cases e
      · cases e
    · cases e
  · cases e
/-! ### name[i] = value -/
def sStore (i : Nat) (mi m : M) : MS := fun env => (m env).bind fun r => match fz r.2 r.1 with
  | some (d, env1) => match env1[i]? with
    | some (some (true, _)) => (mi env1).bind fun r2 => match r2.1 with
      | .val (.int k) => match r2.2[i]? with
        | some (some (true, .lst l)) => match L2.ixN l.length k with
          | some j => .ret (.nx, r2.2.set i (some (true, .lst (l.set j d))))
          | none => .fail
        | _ => .fail
      | _ => .fail
    | _ => .fail
  | none => .fail
theorem sStore_ok {i : Nat} {mi m : M} {D : Ends} (h : sM K Z (sStore i mi m) D σ H) : tAsg (tM K Z m) (gSub (tVar i) (tM K Z mi) rSetL) D σ H := by
  obtain ⟨N, F, P, env, S, h⟩ := h
  refine ⟨N, F, P, env, S, T.ok_mono (fun N1 r1 q1 => ?_) (T.ok_bind h)⟩
  intro v H1 F1 P1 E1 S1 R1 Y1
  split at q1
  · rename_i d env1 e1
    obtain ⟨F2, E2, S2, rv⟩ := R1.freeze E1 S1 Y1 e1
    split at q1
    · rename_i d0 e0
      obtain ⟨a, ea, ow, nf, np, h0⟩ := S2.ow i _ e0
      refine ⟨.ref a, ea, N1, F2, P1, env1, S2, T.ok_mono (fun N3 r3 q3 => ?_) (T.ok_bind q1)⟩
      intro u H3 F3 P3 E3 S3 R3 Y3
      split at q3
      · rename_i k ek
        rw [ek] at R3
        have R3' : RV K F3 P3 H3 (.int k) u := R3
        simp only [RV] at R3'
        subst R3'
        split at q3
        · rename_i l e2
          split at q3
          · rename_i j e3
            obtain ⟨a', ea', ⟨vs, ha, rs⟩, nf2, np2, h02⟩ := S3.ow i _ e2
            rw [ea] at ea'; cases ea'
            refine ⟨a, vs, k, j, rfl, rfl, ha, by rw [rs.length]; exact e3, ?_⟩
            have rv3 : RV K F3 P3 H3 d v := rv.mono (E3.mon S2)
            obtain ⟨S4, m⟩ := S3.mut (l' := l.set j d) (ws := vs.set j v) e2 ea fun H' m => (rs.mono m).set j (rv3.mono m)
            exact q3 _ _ F3 P3 (((E2.mon S).trans (E3.mon S2)).trans m) S4
          · exact q3.elim
        · exact q3.elim
      · exact q3.elim
    · exact q1.elim
  · exact q1.elim
/-! ### l.index(x) -/
def eMt (g : D → List D → Option Hd) (m : M) (ms : MH) : M := fun env => (m env).bind fun r0 => match rs r0.2 r0.1 with
  | some (.lst _) => (ms r0.2).bind fun r => match rs r.2 r0.1, rss r.2 r.1 with
    | some d, some ds => match g d ds with
      | some h => .ret (h, r.2)
      | none => .fail
    | _, _ => .fail
  | _ => .fail
def rMtM (K : PySem.W.Frag) (g : D → List D → Option Hd) : V → List V → Hp → VK → Prop := fun x xs H Q => ∃ (F P : Addr → Prop) (d : D) (ds : List D) (h : Hd), RC K F P H d x ∧ RCs K F P H ds xs ∧ g d ds = some h ∧ ResK K F P H h Q
def NSM (g : D → List D → Option Hd) : Prop := ∀ d ds h, g d ds = some h → noSl h = true
theorem eMt_ok {g : D → List D → Option Hd} {m : M} {ms : MH} {Q : VK} (hl : NSM g) (h : tM K Z (eMt g m ms) σ H Q) : tBM K "list" (rMtM K g) (tM K Z m) (tH K Z ms) σ H Q := by
  obtain ⟨N, F, P, env, S, h⟩ := h
  refine ⟨N, F, P, env, S, T.ok_mono (fun N1 r1 q1 => ?_) (T.ok_bind h)⟩
  intro v H1 F1 P1 E1 S1 R1 Y1
  split at q1
  · rename_i l e1
    obtain ⟨a, vs, rfl, ha, _⟩ := (R1.rc S1 e1).lst
    refine ⟨.inl ⟨rfl, vs, .of ha⟩, N1, F1, P1, r1.2, S1, T.ok_mono (fun N2 r2 q2 => ?_) (T.ok_bind q1)⟩
    intro xs H2 F2 P2 E2 S2 R2 Y2 A2
    split at q2
    · rename_i d ds e2 e3
      split at q2
      · rename_i h' e4
        exact ⟨F2, P2, d, ds, h', (R1.ext S1 E2).rc S2 e2, R2.rcs S2 e3, e4, Post.res S2 (noSl_ne (hl _ _ _ e4)) (Post.from (E1.trans E2) q2)⟩
      · exact q2.elim
    · exact q2.elim
  · exact q1.elim
def gIdx (d : D) (ds : List D) : Option Hd := match d, ds with
  | .lst l, [x] => if l.length ≤ 16777216 ∧ (anyO (fun y => eqDn DEEP y x) l).isSome then (idxO (fun y => eqDn DEEP y x) l).map fun (j : Nat) => .val (.int j) else none
  | _, _ => none
theorem gIdx_ns : NSM gIdx := by
  intro d ds h q
  unfold gIdx at q
  split at q
  · split at q
    · exact map_ns q
    · cases q
  · cases q
theorem idxO_at {s : Shared} {n : Nat} {d : D} : ∀ {ds : List D} {its : List Value} {j : Nat}, Vds s.heap ds its → idxO (fun x => eqDn n x d) ds = some j → (∃ y, its[j]? = some y ∧ eqF s.heap n d y = true) ∧ ∀ (m : Nat) y, m < j → its[m]? = some y → eqF s.heap n d y = false
  | [], its, j, v, e => by cases e
  | x :: ds, its, j, v, e => by
    simp only [Vds] at v
    obtain ⟨u, ur, rfl, q, r⟩ := v
    unfold idxO at e
    split at e
    · rename_i e1
      cases e
      exact ⟨⟨u, rfl, eqF_eq q e1⟩, fun m y h => by omega⟩
    · rename_i e1
      cases e2 : idxO (fun x => eqDn n x d) ds with
      | none => rw [e2] at e; cases e
      | some k =>
        rw [e2] at e; cases e
        obtain ⟨⟨y, h1, h2⟩, h3⟩ := idxO_at r e2
        refine ⟨⟨y, by simpa using h1, h2⟩, fun m z hm hz => ?_⟩
        cases m with
        | zero => simp at hz; subst hz; exact eqF_eq q e1
        | succ m => exact h3 m z (by dsimp only at hm; omega) (by simpa using hz)
    · cases e
theorem mt_idx {X : Cx} (hu : X.A.units + DEEP + 2 < cLine) : MtR X "list.index" (rMtM X.K gIdx) := by
  intro pins s σ H x xs v us Q I rx rxs ⟨F, P, d, ds, h, r1, r2, e, res⟩
  unfold gIdx at e
  split at e
  · rename_i l y
    split at e
    · rename_i hz
      cases e2 : idxO (fun z => eqDn DEEP z y) l with
      | none => rw [e2] at e; cases e
      | some j =>
        rw [e2] at e; cases e
        obtain ⟨b, hb⟩ := Option.isSome_iff_exists.mp hz.2
        obtain ⟨a, vs, rfl, ha, ra⟩ := r1.lst
        obtain ⟨w, rfl, rw'⟩ := r2.one
        cases rx
        obtain ⟨u, rfl, ru⟩ := rxs.one
        obtain ⟨hzz, its, n, rv, ho⟩ := I.hok a _ ha
        have vd := RVs.vd I l vs its ra rv
        have vy := rw'.vd I ru
        obtain ⟨⟨z, h1, h2⟩, h3⟩ := idxO_at vd e2
        obtain ⟨hj, ej⟩ := List.getElem?_eq_some_iff.mp h1
        have hlen := vd.length
        refine call_meets PySem.F.slot_list_index ⟨_, ho, rfl⟩ PySem.F.entry_list_index (PySem.F.args_list_index_2 _ _)
          (SeqAt.list_indexAt a its.toArray n _ _ u (eqF s.heap DEEP y) j (by simpa using hj) (by omega) (by simpa [ej] using h2) fun m hm hmj => ?_) ⟨ho, fun z m => eqF_at vd vy (anyO_at hb) X.A.in1 (by show X.A.units + 1 + DEEP < cLine; omega) z (by simpa using m), ?_⟩
        · have hm' : m < its.length := by simpa using hm
          have := h3 m its[m] hmj (List.getElem?_eq_getElem hm')
          simpa using this
        · exact ⟨.int (j : Nat), H, I.tok _, ⟨_, rfl⟩, res.1 _ rv_int⟩
    · cases e
  · cases e
end
end Mi
set_option Elab.async false
set_option linter.all false
set_option maxRecDepth 100000
set_option maxHeartbeats 2000000
namespace Mi
open PySem PySem.Spec PyProof.Rows L2

/-! ### repr -/
mutual
def toPy : D → PyData
  | .non => .none
  | .bl b => .bool b
  | .int i => .int i
  | .str x => .str ⟨x.toArray⟩
  | .tup l => .tuple (toPys l)
  | .lst l => .list (toPys l)
  | _ => .none
def toPys : List D → List PyData
  | [] => []
  | d :: ds => toPy d :: toPys ds
end
mutual
def okSh : D → Bool
  | .non => true
  | .bl _ => true
  | .int i => decide (i.natAbs < 100000000000000000000)
  | .str x => x.all fun c => decide (c < 4294967296)
  | .tup l => okShs l
  | .lst l => okShs l
  | _ => false
def okShs : List D → Bool
  | [] => true
  | d :: ds => okSh d && okShs ds
end
mutual
def shC : D → Nat
  | .non => 5
  | .bl _ => 5
  | .int _ => 22
  | .str x => 10 * x.length + 2
  | .tup l => shCs l + 2
  | .lst l => shCs l + 2
  | _ => 0
def shCs : List D → Nat
  | [] => 0
  | d :: ds => shC d + 2 + shCs ds
end
mutual
def dpD : D → Nat
  | .tup l => dpDs l + 1
  | .lst l => dpDs l + 1
  | _ => 0
def dpDs : List D → Nat
  | [] => 0
  | d :: ds => max (dpD d) (dpDs ds)
end
theorem list_text (ts : List Str) : (listText ts).length ≤ piled ts + 2 := by
  cases ts with
  | nil => decide +kernel
  | cons t r =>
    have h := textFrom_length_pos r 1 (("[" : Str) ++ (if (0 : Nat) > 0 then ", " else "" : String) ++ t) (Nat.succ_pos 0)
    have e : ((("[" : Str) ++ (if (0 : Nat) > 0 then ", " else "" : String) ++ t)).length = 1 + t.length := by
      rw [strLen_append, strLen_append]; rfl
    have hX : (listText (t :: r)).length = (textFrom 0 "[" (t :: r)).length + 1 := by
      show (textFrom 0 "[" (t :: r) ++ "]").length = _
      rw [strLen_append]; rfl
    have hY : (textFrom 0 "[" (t :: r)).length = (textFrom 1 (("[" : Str) ++ (if (0 : Nat) > 0 then ", " else "" : String) ++ t) r).length := rfl
    rw [hX, hY, h, e, piled_cons]; omega
mutual
theorem shC_le : ∀ d : D, okSh d = true → (toPy d).shown.length ≤ shC d ∧ (toPy d).showable = true ∧ (toPy d).hasDict = false ∧ (toPy d).depth = dpD d
  | .non, _ => ⟨by decide +kernel, rfl, rfl, rfl⟩
  | .bl b, _ => ⟨by cases b <;> decide +kernel, rfl, rfl, rfl⟩
  | .int i, h => by
    simp only [okSh, decide_eq_true_eq] at h
    refine ⟨?_, ?_, rfl, by simp [toPy, dpD, PyData.depth]⟩
    · have e := int_text_length_le10 (a := i) (k := 20) (by decide) (by omega)
      show (Str.ofString (toString i)).length ≤ 22
      rw [PySem.ofString_length]; omega
    · simp only [toPy, PyData.showable, decide_eq_true_eq]
      by_cases h0 : i.natAbs = 0
      · rw [h0]; decide
      · have : i.natAbs < 2 ^ 100 := by omega
        have := (Nat.log2_lt h0).mpr this
        omega
  | .str x, h => by
    simp only [okSh, List.all_eq_true, decide_eq_true_eq] at h
    refine ⟨?_, rfl, rfl, by simp [toPy, dpD, PyData.depth]⟩
    have := StrLaws.reprText_len ⟨x.toArray⟩ (by simpa using fun c hc => h c hc)
    show (reprText ⟨x.toArray⟩).length ≤ 10 * x.length + 2
    have e : (⟨x.toArray⟩ : Str).length = x.length := by simp [Str.length]
    rw [e] at this
    exact this
  | .tup l, h => by
    simp only [okSh] at h
    obtain ⟨h1, h2, h3, h4⟩ := shCs_le l h
    refine ⟨?_, by simpa only [toPy, PyData.showable] using h2, by simpa only [toPy, PyData.hasDict] using h3, by simp only [toPy, PyData.depth, dpD, h4]⟩
    simp only [toPy, PyData.shown, shC]
    have := fmt_text (PyData.shownAll (toPys l))
    omega
  | .lst l, h => by
    simp only [okSh] at h
    obtain ⟨h1, h2, h3, h4⟩ := shCs_le l h
    refine ⟨?_, by simpa only [toPy, PyData.showable] using h2, by simpa only [toPy, PyData.hasDict] using h3, by simp only [toPy, PyData.depth, dpD, h4]⟩
    simp only [toPy, PyData.shown, shC]
    have := list_text (PyData.shownAll (toPys l))
    omega
  | .dic _, h => by cases h
  | .pot, h => by cases h
  | .scr _, h => by cases h
  | .rep _, h => by cases h
theorem shCs_le : ∀ l : List D, okShs l = true → piled (PyData.shownAll (toPys l)) ≤ shCs l ∧ PyData.showableAll (toPys l) = true ∧ PyData.hasDictAll (toPys l) = false ∧ PyData.depthAll (toPys l) = dpDs l
  | [], _ => ⟨by simp [toPys, PyData.shownAll, piled_nil, shCs], by simp [toPys, PyData.showableAll], by simp [toPys, PyData.hasDictAll], by simp [toPys, PyData.depthAll, dpDs]⟩
  | d :: ds, h => by
    simp only [okShs, Bool.and_eq_true] at h
    obtain ⟨a1, a2, a3, a4⟩ := shC_le d h.1
    obtain ⟨b1, b2, b3, b4⟩ := shCs_le ds h.2
    refine ⟨?_, by simp [toPys, PyData.showableAll, a2, b2], by simp [toPys, PyData.hasDictAll, a3, b3], by simp [toPys, PyData.depthAll, dpDs, a4, b4]⟩
    simp only [toPys, PyData.shownAll, shCs]
    rw [piled_cons]
    omega
end
mutual
theorem Vd.reads {h : Heap} : ∀ (d : D) (u : Value), okSh d = true → Vd h d u → ∃ as, Reads h u (toPy d) as
  | .non, u, _, q => by simp only [Vd] at q; subst q; exact ⟨_, .none⟩
  | .bl b, u, _, q => by simp only [Vd] at q; subst q; exact ⟨_, .bool b⟩
  | .int i, u, _, q => by simp only [Vd] at q; obtain ⟨t, rfl⟩ := q; exact ⟨_, .int i t⟩
  | .str x, u, _, q => by simp only [Vd] at q; obtain ⟨t, rfl⟩ := q; exact ⟨_, .str _ t⟩
  | .tup l, u, ok, q => by
    simp only [Vd] at q
    obtain ⟨a, its, rfl, ⟨o, ho, hc, n, hd⟩, qs⟩ := q
    obtain ⟨as, r⟩ := Vds.reads l its (by simpa only [okSh] using ok) qs
    exact ⟨_, .tuple ho hc hd r⟩
  | .lst l, u, ok, q => by
    simp only [Vd] at q
    obtain ⟨a, its, rfl, ⟨o, ho, hc, n, hd⟩, qs⟩ := q
    obtain ⟨as, r⟩ := Vds.reads l its (by simpa only [okSh] using ok) qs
    exact ⟨_, .list ho hc hd r⟩
  | .dic _, u, ok, q => by cases ok
  | .pot, u, ok, q => by cases ok
  | .scr _, u, ok, q => by cases ok
  | .rep _, u, ok, q => by cases ok
theorem Vds.reads {h : Heap} : ∀ (l : List D) (us : List Value), okShs l = true → Vds h l us → ∃ as, ReadsAll h us (toPys l) as
  | [], us, _, q => by simp only [Vds] at q; subst q; exact ⟨_, .nil⟩
  | d :: ds, us, ok, q => by
    simp only [Vds] at q
    obtain ⟨u, ur, rfl, q1, qr⟩ := q
    simp only [okShs, Bool.and_eq_true] at ok
    obtain ⟨a1, r1⟩ := Vd.reads d u ok.1 q1
    obtain ⟨a2, r2⟩ := Vds.reads ds ur ok.2 qr
    exact ⟨_, .cons r1 r2⟩
end
def repOk (d : D) : Bool := okSh d && decide (shC d ≤ 16777000) && decide (dpD d ≤ 30)
def rRep (K : PySem.W.Frag) : List V → Hp → VK → Prop := fun xs H Q => ∃ (F P : Addr → Prop) (d : D), RCs K F P H [d] xs ∧ repOk d = true ∧ Q (.str (toPy d).shown) H
section
variable {X : Cx}
theorem call_reprM (hg : X.A.guards = some []) (hu : X.A.units + DEEP < cLine) : CallR X (.builtin "repr") (rRep X.K) := by
  intro pins s σ H xs us Q I r ⟨F, P, d, rs, ok, q⟩
  obtain ⟨x, rfl, r1⟩ := rs.one
  obtain ⟨u, rfl, ru⟩ := vals1 r
  have vd := r1.vd I ru
  unfold repOk at ok
  simp only [Bool.and_eq_true, decide_eq_true_eq] at ok
  obtain ⟨⟨ok, hz⟩, hd⟩ := ok
  obtain ⟨h1, h2, h3, h4⟩ := shC_le d ok
  have hz' : (toPy d).shown.length ≤ sizeLine := by rw [sizeLine_eq]; omega
  obtain ⟨as, rd⟩ := Vd.reads d u ok vd
  have hD : DEEP = 40 := rfl
  cases d with
  | non =>
    simp only [Vd] at vd; subst vd
    exact PySem.P.repr_of_none ⟨.str _, H, I.tok _, ⟨_, rfl⟩, q⟩
  | bl b =>
    simp only [Vd] at vd; subst vd
    exact PySem.P.repr_of_bool ⟨.str _, H, I.tok _, ⟨_, by simp only [toPy, PyData.shown]; rfl⟩, q⟩
  | int i =>
    simp only [Vd] at vd; obtain ⟨t, rfl⟩ := vd
    refine PySem.P.repr_of_int (by simpa only [toPy, PyData.showable, decide_eq_true_eq] using h2) ⟨.str _, H, I.tok _, ⟨_, rfl⟩, q⟩
  | str z =>
    simp only [Vd] at vd; obtain ⟨t, rfl⟩ := vd
    exact PySem.P.repr_of_str ⟨.str _, H, I.tok _, ⟨_, rfl⟩, q⟩ hz'
  | tup l =>
    have vd' := vd
    simp only [Vd] at vd'
    obtain ⟨a, its, rfl, _⟩ := vd'
    exact repr_of_reads' rd h2 (fun z => by rw [h3] at z; cases z) hg (by rw [h4]; omega) (fun b o e => e) (fun h' u tk hk => ⟨.str _, H, I.kept hk, ⟨u, rfl⟩, q⟩) hz'
  | lst l =>
    have vd' := vd
    simp only [Vd] at vd'
    obtain ⟨a, its, rfl, _⟩ := vd'
    exact repr_of_reads' rd h2 (fun z => by rw [h3] at z; cases z) hg (by rw [h4]; omega) (fun b o e => e) (fun h' u tk hk => ⟨.str _, H, I.kept hk, ⟨u, rfl⟩, q⟩) hz'
  | _ => cases ok
end
section
variable {K : PySem.W.Frag} {Z : Fr} {N N' N'' : Nat} {F P F' P' F'' P'' : Addr → Prop} {env env' env'' e0 : Ev} {σ : L2.St} {H H' H'' H0 : Hp} {F0 P0 : Addr → Prop}
def eRep (f : Bool → Bool) (m1 m2 : M) : M := fun env => (m1 env).bind fun r1 => match rs r1.2 r1.1 with
  | some d1 => if repOk d1 = true then (m2 r1.2).bind fun r2 => match rs r2.2 r2.1 with
    | some d2 => if repOk d2 = true then .ret (.val (.bl (f (decide ((toPy d1).shown = (toPy d2).shown)))), r2.2) else .fail
    | none => .fail
    else .fail
  | none => .fail
theorem RC.rcs1 {d : D} {v : V} (r : RC K F P H d v) : RCs K F P H [d] [v] := ⟨v, [], rfl, r, rfl⟩
theorem eRep_ok {r : R2} {f : Bool → Bool} {m1 m2 : M} {Q : VK} (hr : ∀ (x y : Str) (H : Hp) (Q : VK), Q (.bl (f (decide (x = y)))) H → r (.str x) (.str y) H Q) (h : tM K Z (eRep f m1 m2) σ H Q) :
    tOp r (tCB (rRep K) (tCons (tM K Z m1) tNil)) (tCB (rRep K) (tCons (tM K Z m2) tNil)) σ H Q := by
  obtain ⟨N, F, P, env, S, h⟩ := h
  refine ⟨N, F, P, env, S, T.ok_mono (fun N1 r1 q1 => ?_) (T.ok_bind h)⟩
  intro v1 H1 F1 P1 E1 S1 R1 Y1
  split at q1
  · rename_i d1 e1
    split at q1
    · rename_i o1
      refine ⟨F1, P1, d1, (R1.rc S1 e1).rcs1, o1, N1, F1, P1, r1.2, S1, T.ok_mono (fun N2 r2 q2 => ?_) (T.ok_bind q1)⟩
      intro v2 H2 F2 P2 E2 S2 R2 Y2
      split at q2
      · rename_i d2 e2
        split at q2
        · rename_i o2
          refine ⟨F2, P2, d2, (R2.rc S2 e2).rcs1, o2, hr _ _ _ _ ?_⟩
          exact q2 _ H2 F2 P2 (E1.trans E2) S2 (by show RV K F2 P2 H2 (.bl _) _; simp only [RV]) trivial
        · exact q2.elim
      · exact q2.elim
    · exact q1.elim
  · exact q1.elim
theorem rep_ne (x y : Str) (H : Hp) (Q : VK) (q : Q (.bl (!decide (x = y))) H) : rNe (.str x) (.str y) H Q := by
  refine ⟨rfl, ?_⟩
  have : decide (V.str x = V.str y) = decide (x = y) := by
    by_cases e : x = y
    · subst e; simp
    · rw [decide_eq_false e, decide_eq_false fun z => e (V.str.inj z)]
  rw [this]; exact q
theorem rep_eq (x y : Str) (H : Hp) (Q : VK) (q : Q (.bl (decide (x = y))) H) : rEq (.str x) (.str y) H Q := by
  refine ⟨rfl, ?_⟩
  have : decide (V.str x = V.str y) = decide (x = y) := by
    by_cases e : x = y
    · subst e; simp
    · rw [decide_eq_false e, decide_eq_false fun z => e (V.str.inj z)]
  rw [this]; exact q
end
end Mi
set_option Elab.async false
set_option linter.all false
set_option maxRecDepth 100000
set_option maxHeartbeats 2000000
namespace Mi
open PySem PySem.Spec PyProof.Rows L2

/-! ### powers of any base -/
theorem bits_of {i : Int} {k : Nat} (hk : 0 < k) (h : i.natAbs < 2 ^ k) : Builtin.Int.intBits i ≤ k := by
  unfold Builtin.Int.intBits
  split
  · omega
  · have := PySem.Flt.log2_lt_of hk h
    omega
/-! ### the draw -/
def takeG : List D → T D
  | [.pot, .int k] => if 0 < k ∧ k < 1073741824 then .draw k.toNat fun d => .ret (.int (d : Nat)) else .fail
  | _ => .fail
abbrev rAdd0 : R2 := rI0 fun i j => .int (i + j)
abbrev rMod0 : R2 := rI (fun _ j => 0 < j) fun i j => .int (i % j)
abbrev rDiv0 : R2 := rI CDiv fun i j => .int (i / j)
abbrev rMul0 : R2 := rI CMulW fun i j => .int (i * j)
abbrev rPow0 : R2 := rI CPowB fun i j => .int (i ^ j.toNat)
abbrev rGt0 : R2 := rI0 fun i j => .bl (decide (j < i))
abbrev rInt0 : List V → Hp → VK → Prop := fun xs H Q => (∃ i, xs = [.int i] ∧ Q (.int i) H) ∨ ∃ k, xs = [.bl k] ∧ Q (.int (if k then 1 else 0)) H
def tI1 (t : TE) : TE := tCB rInt0 (tCons t tNil)
def tP (K : PySem.W.Frag) (k : Int) : TE := tOp (rIxL K) (tVar 0) (tC (.int k))
def tC5 : TA := tCons (tC (.int 2147483647)) (tCons (tC (.int 2147483629)) (tCons (tC (.int 2147483587)) (tCons (tC (.int 2147483579)) (tCons (tC (.int 2147483563)) tNil))))
def takeR (K : PySem.W.Frag) : TS :=
  tSeq (tIfS (tTest (tOp rGt0 (tP K 0) (tC (.int 0))))
    (tSeq (tAsg (tOp rMod0 (tI1 (tP K 0)) (tVar 1)) (gName 2)) (tSeq (tAsg (tOp rDiv0 (tP K 0) (tVar 1)) (gSub (tVar 0) (tC (.int 0)) rSetL)) (tRet (tVar 2)))) tNext)
  (tSeq (tAsg (tOp rAdd0 (tP K 2) (tC (.int 1))) (gSub (tVar 0) (tC (.int 2)) rSetL))
  (tSeq (tAsg (tOp (rIxL K) (tLst tC5) (tOp rMod0 (tI1 (tP K 2)) (tC (.int 5)))) (gName 3))
  (tSeq (tAsg (tOp rMod0 (tI1 (tOp rPow0 (tI1 (tOp rAdd0 (tOp rAdd0 (tP K 1) (tOp rMul0 (tOp rMul0 (tC (.int 93251)) (tP K 2)) (tP K 2))) (tC (.int 4177)))) (tC (.int 3)))) (tVar 3)) (gName 4))
  (tSeq (tAsg (tOp rMod0 (tI1 (tOp rMul0 (tVar 4) (tOp rAdd0 (tOp rMod0 (tI1 (tVar 4)) (tC (.int 12907))) (tOp rMul0 (tC (.int 433)) (tP K 2))))) (tC (.int 2305843009213693907))) (gName 4))
  (tRet (tOp rMod0 (tI1 (tOp rDiv0 (tVar 4) (tC (.int 241)))) (tVar 1)))))))
/-- an int, and nothing changes -/
def IntE (t : TE) (σ : L2.St) (H : Hp) (i : Int) : Prop := ∀ Q : VK, Q (.int i) H → t σ H Q
section
variable {K : PySem.W.Frag} {σ : L2.St} {H : Hp} {i j : Int}
theorem IntE.c : IntE (tC (.int i)) σ H i := fun Q q => q
theorem IntE.var {n : Nat} (e : σ[n]? = some (some (.int i))) : IntE (tVar n) σ H i := fun Q q => ⟨_, e, q⟩
theorem IntE.i1 {t : TE} (h : IntE t σ H i) : IntE (tI1 t) σ H i := fun Q q => h _ (.inl ⟨i, rfl, q⟩)
theorem IntE.op0 {t u : TE} {g : Int → Int → Int} (h : IntE t σ H i) (h' : IntE u σ H j) : IntE (tOp (rI0 fun i j => .int (g i j)) t u) σ H (g i j) := fun Q q => h _ (h' _ ⟨i, j, rfl, rfl, q⟩)
theorem IntE.op {t u : TE} {C : Int → Int → Prop} {g : Int → Int → Int} (h : IntE t σ H i) (h' : IntE u σ H j) (c : C i j) : IntE (tOp (rI C fun i j => .int (g i j)) t u) σ H (g i j) := fun Q q => h _ (h' _ ⟨i, j, rfl, rfl, c, q⟩)
theorem IntE.p {a : Addr} {x y c : Int} (e : σ[0]? = some (some (.ref a))) (h : H a = some (.lst [.int x, .int y, .int c])) : IntE (tP K 0) σ H x ∧ IntE (tP K 1) σ H y ∧ IntE (tP K 2) σ H c :=
  ⟨fun Q q => ⟨_, e, a, _, 0, _, rfl, rfl, .of h, rfl, q⟩, fun Q q => ⟨_, e, a, _, 1, _, rfl, rfl, .of h, rfl, q⟩, fun Q q => ⟨_, e, a, _, 2, _, rfl, rfl, .of h, rfl, q⟩⟩
theorem IntE.asg {t : TE} {g : TG} {D : Ends} (h : IntE t σ H i) (q : g (.int i) σ H D.nx) : tAsg t g D σ H := h _ q
theorem IntE.ret {t : TE} {D : Ends} (h : IntE t σ H i) (q : D.rt (.int i) H) : tRet t D σ H := h _ q
end
theorem pot_upd {N : Nat} {F P : Addr → Prop} {H H' : Hp} {a : Addr} (W : WOk (N + 1) F P H) (pa : P a) (k : ∀ b o, b ≠ a → H b = some o → H' b = some o) (po : PotOk N (H' a)) : CExt F P H F P H' ∧ WOk N F P H' := by
  refine ⟨⟨fun _ h => h, fun _ h => h, fun b o e p => k b o (fun z => p (z ▸ pa)) e, fun _ h => .inl h, fun _ h => .inl h⟩, fun b f => ?_, fun b p => ?_, W.dis, by have := W.nle; omega⟩
  · obtain ⟨o, e⟩ := W.trF b f
    exact ⟨o, k b o (fun z => W.dis b f (z ▸ pa)) e⟩
  · by_cases hb : b = a
    · subst hb; exact po
    · obtain ⟨x, y, c, e, h⟩ := W.pot b p
      exact ⟨x, y, c, k b _ hb e, by omega⟩
theorem pow2_lt {c : Int} {k : Nat} (h0 : 0 ≤ c) (h : c ≤ (2 ^ k : Nat)) : c.natAbs < 2 ^ (k + 1) := by
  have h1 : 2 ^ (k + 1) = 2 ^ k * 2 := Nat.pow_succ 2 k
  have h2 : 0 < 2 ^ k := Nat.two_pow_pos k
  generalize 2 ^ k = m at h h1 h2
  omega
theorem lim_bits {c : Int} (h0 : 0 ≤ c) (h : c ≤ LIM) : c.natAbs < 2 ^ 100001 := pow2_lt (k := 100000) h0 h
theorem mulW {i j : Int} {a b : Nat} (ha : i.natAbs < 2 ^ a) (hb : j.natAbs < 2 ^ b) (h0 : 0 < a) (h1 : 0 < b) (h : a + b ≤ 1000000) : CMulW i j := wide_mul ha hb h0 h1 h
theorem abs_mul {i j : Int} {a b c : Nat} (ha : i.natAbs < 2 ^ a) (hb : j.natAbs < 2 ^ b) (h : a + b = c) : (i * j).natAbs < 2 ^ c := by
  subst h
  rw [Int.natAbs_mul, Nat.pow_add]
  exact Nat.mul_lt_mul'' ha hb
theorem abs_add {i j : Int} {a c : Nat} (ha : i.natAbs < 2 ^ a) (hb : j.natAbs < 2 ^ a) (h : a + 1 = c) : (i + j).natAbs < 2 ^ c := by
  subst h
  have h1 : 2 ^ (a + 1) = 2 ^ a * 2 := Nat.pow_succ 2 a
  generalize 2 ^ a = m at ha hb h1
  omega
theorem abs_le {i : Int} {a b : Nat} (ha : i.natAbs < 2 ^ a) (h : a ≤ b) : i.natAbs < 2 ^ b := Nat.lt_of_lt_of_le ha (Nat.pow_le_pow_right (by omega) h)
section
variable {K : PySem.W.Frag}
theorem take_read {Nm : List Str} (hN : Nm.length = 5) {vs : List V} {H : Hp} {Q : VK} {E : XK} (h : spM K takeG 2 vs H Q E) : takeR K { nx := fun _ H' => Q .non H', rt := Q } (L2.start Nm vs) H := by
  obtain ⟨N, F, P, ds, hl, r, W, h⟩ := h
  unfold takeG at h
  split at h
  · rename_i k
    split at h
    · rename_i hk
      obtain ⟨v, vr, rfl, r1, rr⟩ := r.uncons
      obtain ⟨u, ur, rfl, r2, rr2⟩ := rr.uncons
      rw [rr2.unnil]
      simp only [RV] at r1 r2
      obtain ⟨a, rfl, pa⟩ := r1
      subst r2
      cases N with
      | zero => exact h.elim
      | succ N =>
        obtain ⟨x, y, c, e, hx0, hx1, hy0, hy1, hc0, hcN⟩ := W.pot a pa
        have hσ : L2.start Nm [V.ref a, V.int k] = [some (.ref a), some (.int k), none, none, none] := by simp [L2.start, hN, List.replicate]
        rw [hσ]
        have fin : ∀ (d : Int) (H' : Hp), 0 ≤ d → d < k → (∀ b o, b ≠ a → H b = some o → H' b = some o) → PotOk N (H' a) → Q (.int d) H' := fun d H' h0 h1 kp po => by
          obtain ⟨ce, wo⟩ := pot_upd W pa kp po
          have := h d.toNat (by omega)
          refine this (.int d) H' F P ce wo ?_
          simp only [RV]
          congr 1
          omega
        obtain ⟨p0, p1, p2⟩ := IntE.p (K := K) (σ := [some (.ref a), some (.int k), none, none, none]) rfl e
        unfold takeR
        refine p0 _ ⟨x, 0, rfl, rfl, _, rfl, ?_⟩
        by_cases hx : 0 < x
        · rw [decide_eq_true hx]
          refine iteT ?_
          refine IntE.asg (IntE.op p0.i1 (IntE.var rfl) hk.1) ?_
          obtain ⟨p0', _, _⟩ := IntE.p (K := K) (σ := [some (.ref a), some (.int k), some (.int (x % k)), none, none]) rfl e
          refine IntE.asg (IntE.op p0' (IntE.var rfl) ⟨hk.1, hk.2⟩) ?_
          refine ⟨.ref a, rfl, a, _, 0, 0, rfl, rfl, e, rfl, ?_⟩
          refine IntE.ret (IntE.var rfl) ?_
          refine fin _ _ (Int.emod_nonneg _ (by omega)) (Int.emod_lt_of_pos _ hk.1) (fun b o hb q => by rw [upd_ne hb]; exact q) ⟨x / k, y, c, ?_, Int.ediv_nonneg hx0 (by omega), ?_, hy0, hy1, hc0, by omega⟩
          · rw [upd_same]; rfl
          · exact Int.lt_of_le_of_lt (Int.ediv_le_self _ hx0) hx1
        · rw [decide_eq_false hx]
          refine iteF ?_
          obtain ⟨p0', p1', p2'⟩ := IntE.p (K := K) (σ := [some (.ref a), some (.int k), none, none, none]) rfl e
          refine IntE.asg (IntE.op0 p2' IntE.c) ?_
          refine ⟨.ref a, rfl, a, _, 2, 2, rfl, rfl, e, rfl, ?_⟩
          have e1 : (upd H a (.lst ([V.int x, .int y, .int c].set 2 (.int (c + 1))))) a = some (.lst [.int x, .int y, .int (c + 1)]) := by rw [upd_same]; rfl
          generalize hH1 : upd H a (.lst ([V.int x, .int y, .int c].set 2 (.int (c + 1)))) = H1 at e1
          have kp1 : ∀ b o, b ≠ a → H b = some o → H1 b = some o := fun b o hb q => by rw [← hH1, upd_ne hb]; exact q
          have hc1 : 0 ≤ c + 1 := by omega
          have hcL : c + 1 ≤ LIM := by omega
          have bc := lim_bits hc1 hcL
          refine ⟨by rw [sizeLine_eq]; decide, fun p hp => ?_⟩
          have pne : p ≠ a := fun z => by rw [z, e1] at hp; cases hp
          have e2 : (upd H1 p (.lst [V.int 2147483647, .int 2147483629, .int 2147483587, .int 2147483579, .int 2147483563])) a = some (.lst [.int x, .int y, .int (c + 1)]) := by rw [upd_ne (Ne.symm pne)]; exact e1
          have e3 : (upd H1 p (.lst [V.int 2147483647, .int 2147483629, .int 2147483587, .int 2147483579, .int 2147483563])) p = some (.lst [V.int 2147483647, .int 2147483629, .int 2147483587, .int 2147483579, .int 2147483563]) := upd_same
          generalize hH2 : upd H1 p (.lst [V.int 2147483647, .int 2147483629, .int 2147483587, .int 2147483579, .int 2147483563]) = H2 at e2 e3
          have kp2 : ∀ b o, b ≠ a → H b = some o → H2 b = some o := fun b o hb q => by
            rw [← hH2, upd_ne (fun z => by rw [← z] at hp; rw [kp1 b o hb q] at hp; cases hp)]; exact kp1 b o hb q
          have q0 : ∀ m n o, IntE (tP K 0) [some (.ref a), some (.int k), m, n, o] H2 x ∧ IntE (tP K 1) [some (.ref a), some (.int k), m, n, o] H2 y ∧ IntE (tP K 2) [some (.ref a), some (.int k), m, n, o] H2 (c + 1) := fun m n o => IntE.p rfl e2
          -- which prime
          refine IntE.op (C := fun _ j => 0 < j) (g := fun i j => i % j) (IntE.i1 (q0 none none none).2.2) IntE.c (by decide) _ ?_
          have hr : ∃ pr : Int, 0 < pr ∧ pr < 2 ^ 31 ∧ L2.atI [V.int 2147483647, .int 2147483629, .int 2147483587, .int 2147483579, .int 2147483563] ((c + 1) % 5) = some (.int pr) := by
            have h0 := Int.emod_nonneg (c + 1) (show (5 : Int) ≠ 0 by decide)
            have h1 := Int.emod_lt_of_pos (c + 1) (show (0 : Int) < 5 by decide)
            generalize (c + 1) % 5 = m at h0 h1
            have : m = 0 ∨ m = 1 ∨ m = 2 ∨ m = 3 ∨ m = 4 := by omega
            rcases this with rfl | rfl | rfl | rfl | rfl
            · exact ⟨2147483647, by decide, by decide, rfl⟩
            · exact ⟨2147483629, by decide, by decide, rfl⟩
            · exact ⟨2147483587, by decide, by decide, rfl⟩
            · exact ⟨2147483579, by decide, by decide, rfl⟩
            · exact ⟨2147483563, by decide, by decide, rfl⟩
          obtain ⟨pr, pr0, pr1, epr⟩ := hr
          refine ⟨p, _, _, .int pr, rfl, rfl, .of e3, epr, ?_⟩
          -- the mixture
          have b1 : (93251 : Int).natAbs < 2 ^ 17 := by decide
          have b2 : (93251 * (c + 1)).natAbs < 2 ^ 100018 := abs_mul (a := 17) b1 bc rfl
          have b3 : (93251 * (c + 1) * (c + 1)).natAbs < 2 ^ 200019 := abs_mul (a := 100018) b2 bc rfl
          have by' : y.natAbs < 2 ^ 61 := by
            have : (2 : Nat) ^ 61 = 2305843009213693952 := by decide
            omega
          have b4 : (y + 93251 * (c + 1) * (c + 1)).natAbs < 2 ^ 200020 := abs_add (abs_le by' (by decide)) b3 rfl
          have b5 : (y + 93251 * (c + 1) * (c + 1) + 4177).natAbs < 2 ^ 200021 := abs_add b4 (abs_le (a := 13) (by decide) (by decide)) rfl
          refine IntE.asg (IntE.op (IntE.i1 (IntE.op (IntE.i1 (IntE.op0 (IntE.op0 (q0 _ _ _).2.1 (IntE.op (IntE.op IntE.c (q0 _ _ _).2.2 ?m1) (q0 _ _ _).2.2 ?m2)) IntE.c)) IntE.c ?m3)) (IntE.var rfl) pr0) ?_
          case m1 => exact mulW b1 bc (by decide) (by decide) (by decide)
          case m2 => exact mulW b2 bc (by decide) (by decide) (by decide)
          case m3 =>
            refine ⟨by decide, ?_⟩
            have := bits_of (by decide) b5
            omega
          generalize hm : (y + 93251 * (c + 1) * (c + 1) + 4177) ^ (3 : Int).toNat % pr = mx
          have hm0 : 0 ≤ mx := by rw [← hm]; exact Int.emod_nonneg _ (by omega)
          have hm1 : mx < pr := by rw [← hm]; exact Int.emod_lt_of_pos _ pr0
          have bm : mx.natAbs < 2 ^ 31 := by omega
          have b6 : (433 * (c + 1)).natAbs < 2 ^ 100010 := abs_mul (a := 9) (by decide) bc rfl
          have b7 : (mx % 12907).natAbs < 2 ^ 14 := by
            have h0 := Int.emod_nonneg mx (show (12907 : Int) ≠ 0 by decide)
            have h1 := Int.emod_lt_of_pos mx (show (0 : Int) < 12907 by decide)
            omega
          have b8 : (mx % 12907 + 433 * (c + 1)).natAbs < 2 ^ 100011 := abs_add (abs_le b7 (by decide)) b6 rfl
          refine IntE.asg (IntE.op (IntE.i1 (IntE.op (IntE.var rfl) (IntE.op0 (IntE.op (IntE.i1 (IntE.var rfl)) IntE.c (by decide)) (IntE.op IntE.c (q0 _ _ _).2.2 ?m4)) ?m5)) IntE.c (by decide)) ?_
          case m4 => exact mulW (a := 9) (by decide) bc (by decide) (by decide) (by decide)
          case m5 => exact mulW bm b8 (by decide) (by decide) (by decide)
          refine IntE.ret (IntE.op (IntE.i1 (IntE.op (IntE.var rfl) IntE.c ⟨by decide, by decide⟩)) (IntE.var rfl) hk.1) ?_
          exact fin _ _ (Int.emod_nonneg _ (by omega)) (Int.emod_lt_of_pos _ hk.1) kp2 ⟨x, y, c + 1, e2, hx0, hx1, hy0, hy1, hc1, by omega⟩
    · exact h.elim
  · exact h.elim
end

/-! ### a new list of three ints as a pot -/
def potG : List D → T D
  | [.scr _, .int p] => if 0 ≤ p ∧ p < 1000 then .ret .pot else .fail
  | _ => .fail
/-- g makes a pot -/
def MakesPot (g : List D → T D) : Prop := ∀ (ns : List Int) (p : Int), 0 ≤ p → p < 1000 → ∃ x y : Int, g [.scr ns, .int p] = .ret (.lst [.int x, .int y, .int 0]) ∧ 0 ≤ x ∧ x < 10 ^ 300 ∧ 0 ≤ y ∧ y < 2305843009213693952
theorem to_pot {K : PySem.W.Frag} {g : List D → T D} (hg : MakesPot g) {vs : List V} {H : Hp} {Q : VK} {E : XK} (h : spM K potG 2 vs H Q E) : spM K g 2 vs H Q E := by
  obtain ⟨N, F, P, ds, hl, r, W, h⟩ := h
  unfold potG at h
  split at h
  · rename_i ns p
    split at h
    · rename_i hp
      obtain ⟨x, y, eg, hx0, hx1, hy0, hy1⟩ := hg ns p hp.1 hp.2
      obtain ⟨v, vr, rfl, r1, rr⟩ := r.uncons
      obtain ⟨u, ur, rfl, r2, rr2⟩ := rr.uncons
      have r1' : RV K (fun _ => False) P H (.scr ns) v := by simpa only [RV] using r1
      have r2' : RV K (fun _ => False) P H (.int p) u := by simpa only [RV] using r2
      have rr2' := rr2.unnil
      subst rr2'
      refine ⟨N, fun _ => False, P, [.scr ns, .int p], hl, .cons r1' (.cons r2' .nil), ⟨fun a f => f.elim, W.pot, fun a f => f.elim, W.nle⟩, ?_⟩
      rw [eg]
      intro w H' F' P' C W' rv
      simp only [RV] at rv
      obtain ⟨a, xs, rfl, fa, ha, rs⟩ := rv
      have h0 : H a = none := (C.newF a fa).elim (fun z => z.elim) id
      simp only [RVs, RV] at rs
      obtain ⟨_, _, rfl, rfl, _, _, rfl, rfl, _, _, rfl, rfl, rfl⟩ := rs
      have np' : ¬ P' a := W'.dis a fa
      refine h (.ref a) H' F (fun b => P' b ∨ b = a) ⟨fun _ h => h, fun b h => .inl (C.pP b h), C.keep, fun _ h => .inl h, fun b h => ?_⟩ ⟨fun b f => ?_, fun b q => ?_, fun b f q => ?_, W'.nle⟩ ?_
      · rcases h with h | rfl
        · exact C.newP b h
        · exact .inr h0
      · obtain ⟨o, e⟩ := W.trF b f
        exact ⟨o, C.keep b o e (W.dis b f)⟩
      · rcases q with q | rfl
        · exact W'.pot b q
        · exact ⟨x, y, 0, ha, hx0, hx1, hy0, hy1, by omega, by have := W'.nle; omega⟩
      · obtain ⟨o, e⟩ := W.trF b f
        rcases q with q | rfl
        · rcases C.newP b q with z | z
          · exact W.dis b f z
          · rw [e] at z; cases z
        · rw [e] at h0; cases h0
      · simp only [RV]
        exact ⟨a, rfl, .inr rfl⟩
    · exact h.elim
  · exact h.elim
end Mi
set_option Elab.async false
set_option linter.all false
set_option maxRecDepth 100000
set_option maxHeartbeats 2000000
namespace Mi
open PySem PySem.Spec PyProof.Rows L2

section
variable {K : PySem.W.Frag} {Z : Fr} {N N' N'' : Nat} {F P F' P' F'' P'' : Addr → Prop} {env env' env'' e0 : Ev} {σ : L2.St} {H H' H'' H0 : Hp} {F0 P0 : Addr → Prop}
/-- slots are frozen ahead: nothing happens in the text -/
def frzAll : List Nat → Ev → Ev
  | [], e => e
  | i :: is, e => match e[i]? with
    | some (some (true, d)) => frzAll is (e.set i (some (false, d)))
    | _ => frzAll is e
def eFrz (is : List Nat) (m : M) : M := fun env => m (frzAll is env)
theorem frzAll_ok : ∀ {is : List Nat} {env : Ev} {F : Addr → Prop}, Ext σ e0 F0 P0 H0 env F P H → StR K Z N F P env σ H → ∃ F', Ext σ e0 F0 P0 H0 (frzAll is env) F' P H ∧ StR K Z N F' P (frzAll is env) σ H
  | [], env, F, E, S => ⟨F, E, S⟩
  | i :: is, env, F, E, S => by
    unfold frzAll
    split
    · rename_i d e
      obtain ⟨a, ea, _⟩ := S.ow i d e
      obtain ⟨F', E', S', _⟩ := RH.freeze (h := .slot i) (v := .ref a) (d := d) E S trivial ⟨ea, _, _, e⟩ (show fz env (.slot i) = some (d, env.set i (some (false, d))) by simp only [Mi.fz, e])
      exact frzAll_ok E' S'
    · exact frzAll_ok E S
theorem eFrz_ok {is : List Nat} {m : M} {Q : VK} (h : tM K Z (eFrz is m) σ H Q) : tM K Z m σ H Q := by
  obtain ⟨N, F, P, env, S, h⟩ := h
  obtain ⟨F', E', S'⟩ := frzAll_ok (is := is) Ext.refl S
  exact ⟨N, F', P, _, S', T.ok_mono (fun N1 r1 q1 => Post.from (r := r1) E' q1) h⟩
/-! ### not, as a value -/
def eNotV (m : M) : M := fun env => (m env).bind fun r => match r.1 with
  | .val (.bl b) => .ret (.val (.bl (!b)), r.2)
  | _ => .fail
theorem eNotV_ok {m : M} {Q : VK} (h : tM K Z (eNotV m) σ H Q) : tNotV (tM K Z m) σ H Q := by
  obtain ⟨N, F, P, env, S, h⟩ := h
  refine ⟨N, F, P, env, S, T.ok_mono (fun N1 r1 q1 => ?_) (T.ok_bind h)⟩
  intro v H1 F1 P1 E1 S1 R1 Y1
  split at q1
  · rename_i b e
    rw [e] at R1
    have R1' : RV K F1 P1 H1 (.bl b) v := R1
    simp only [RV] at R1'
    exact ⟨b, R1', q1 (.bl (!b)) H1 F1 P1 E1 S1 (by show RV K F1 P1 H1 (.bl _) _; simp only [RV]) trivial⟩
  · exact q1.elim
/-! ### (*a, b) -/
def hStar (m : M) (ms : MH) : MH := fun env => (m env).bind fun r1 => match fz r1.2 r1.1 with
  | some (d, env1) => match walkD d with
    | some l => (ms env1).bind fun r2 => .ret (l.map .val ++ r2.1, r2.2)
    | none => .fail
  | none => .fail
theorem RHs.vals {l : List D} {xs : List V} (r : RVs K F P H l xs) : ∀ {hs : List Hd} {vs : List V}, RHs K Z F P env σ H hs vs → RHs K Z F P env σ H (l.map .val ++ hs) (xs ++ vs) := by
  induction l generalizing xs with
  | nil => intro hs vs h; rw [r.unnil]; exact h
  | cons d l ih =>
    intro hs vs h
    obtain ⟨v, vr, rfl, r1, rr⟩ := r.uncons
    exact ⟨v, _, rfl, r1, ih rr h⟩
theorem Youngs.vals {l : List D} {xs : List V} (hl : xs.length = l.length) : ∀ {hs : List Hd} {vs : List V}, Youngs H hs vs → Youngs H (l.map .val ++ hs) (xs ++ vs) := by
  induction l generalizing xs with
  | nil => intro hs vs h; cases xs with | nil => exact h | cons _ _ => simp at hl
  | cons d l ih => intro hs vs h; cases xs with | nil => simp at hl | cons x xs => exact ⟨trivial, ih (by simpa using hl) h⟩
theorem Apart.vals {l : List D} {xs : List V} (hl : xs.length = l.length) : ∀ {hs : List Hd} {vs : List V}, Apart hs vs → Apart (l.map .val ++ hs) (xs ++ vs) := by
  induction l generalizing xs with
  | nil => intro hs vs h; cases xs with | nil => exact h | cons _ _ => simp at hl
  | cons d l ih => intro hs vs h; cases xs with | nil => simp at hl | cons x xs => exact ih (by simpa using hl) h
theorem hStar_ok {m : M} {ms : MH} {Q : List V → Hp → Prop} (h : tH K Z (hStar m ms) σ H Q) : StX.tStar K (tM K Z m) (tH K Z ms) σ H Q := by
  obtain ⟨N, F, P, env, S, h⟩ := h
  refine ⟨N, F, P, env, S, T.ok_mono (fun N1 r1 q1 => ?_) (T.ok_bind h)⟩
  intro v H1 F1 P1 E1 S1 R1 Y1
  split at q1
  · rename_i d env1 e1
    obtain ⟨F2, E2, S2, rv⟩ := R1.freeze E1 S1 Y1 e1
    split at q1
    · rename_i l e2
      obtain ⟨a, b, xs, rfl, rs, st⟩ := rv.walk e2
      refine ⟨a, xs, rfl, ?_, N1, F2, P1, env1, S2, T.ok_mono (fun N2 r2 q2 => ?_) (T.ok_bind q1)⟩
      · have := st.at
        cases b with
        | true => exact .inr this
        | false => exact .inl this
      · intro vs H2 F3 P3 E3 S3 R3 Y3 A3
        have rs3 := rs.mono (E3.mon S2)
        exact q2 (xs ++ vs) H2 F3 P3 (E2.trans E3) S3 (RHs.vals rs3 R3) (Youngs.vals rs.length (Y3.back E2)) (Apart.vals rs.length A3)
    · exact q1.elim
  · exact q1.elim
/-- displays whose length is seen when they are made -/
def hFew (ms : MH) : MH := fun env => (ms env).bind fun r => if r.1.length ≤ 16777216 then .ret r else .fail
theorem eTupS_ok {ms : MH} {Q : VK} (h : tM K Z (eTup (hFew ms)) σ H Q) : tTup (tH K Z ms) σ H Q := by
  obtain ⟨N, F, P, env, S, h⟩ := h
  refine ⟨N, F, P, env, S, T.ok_mono (fun N1 r1 q1 => ?_) (T.ok_bind (T.ok_bind h))⟩
  intro vs H1 F1 P1 E1 S1 R1 Y1 A1
  split at q1
  · rename_i hz
    have q1' := T.ok_bind (t := .ret r1) q1
    change (match fzs r1.2 r1.1 with | some (ds, env') => (T.ret (Hd.val (.tup ds), env') : T (Hd × Ev)) | none => .fail).ok N1 _ at q1
    split at q1
    · rename_i ds env1 e1
      obtain ⟨F2, E2, S2, rv⟩ := R1.freeze E1 S1 Y1 e1
      refine ⟨by rw [R1.length]; exact sz hz, fun p hp => ?_⟩
      refine q1 (.ref p) _ F2 P1 (E2.trans (Ext.alloc hp)) (S2.alloc hp) ?_ trivial
      show RV K F2 P1 (upd H1 p (.tup vs)) (.tup ds) (.ref p)
      simp only [RV]
      exact ⟨p, vs, rfl, upd_same, rv.alloc hp⟩
    · exact q1.elim
  · exact q1.elim
theorem eLstS_ok {ms : MH} {Q : VK} (h : tM K Z (eLst (hFew ms)) σ H Q) : tLst (tH K Z ms) σ H Q := by
  obtain ⟨N, F, P, env, S, h⟩ := h
  refine ⟨N, F, P, env, S, T.ok_mono (fun N1 r1 q1 => ?_) (T.ok_bind (T.ok_bind h))⟩
  intro vs H1 F1 P1 E1 S1 R1 Y1 A1
  split at q1
  · rename_i hz
    change (match fzs r1.2 r1.1 with | some (ds, env') => (T.ret (Hd.tmp (.lst ds), env') : T (Hd × Ev)) | none => .fail).ok N1 _ at q1
    split at q1
    · rename_i ds env1 e1
      obtain ⟨F2, E2, S2, rv⟩ := R1.freeze E1 S1 Y1 e1
      refine ⟨by rw [R1.length]; exact sz hz, fun p hp => ?_⟩
      obtain ⟨nF, nP, nO, h0⟩ := S2.noneF hp
      refine q1 (.ref p) _ F2 P1 (E2.trans (Ext.alloc hp)) (S2.alloc hp) ⟨p, rfl, ⟨vs, upd_same, rv.alloc hp⟩, nF, nP, nO, h0⟩ ?_
      exact Young.back (h := .tmp (.lst ds)) E2 ⟨p, rfl, hp⟩
    · exact q1.elim
  · exact q1.elim
/-! ### list(range), tuple(range) -/
def eListRg (ms : MH) : M := fun env => (iRng ms env).bind fun r => .ret (.tmp (.lst r.1), r.2)
def eTupRg (ms : MH) : M := fun env => (iRng ms env).bind fun r => .ret (.val (.tup r.1), r.2)
end
end Mi
set_option Elab.async false
set_option linter.all false
set_option maxRecDepth 100000
set_option maxHeartbeats 2000000
namespace Mi
open PySem PySem.Spec PyProof.Rows L2

section
variable {K : PySem.W.Frag} {Z : Fr} {N N' N'' : Nat} {F P F' P' F'' P'' : Addr → Prop} {env env' env'' e0 : Ev} {σ : L2.St} {H H' H'' H0 : Hp} {F0 P0 : Addr → Prop}
theorem RVs.rg {a b : Int} : RVs K F P H (rgD a b) (rgV a b) := by
  unfold rgD rgV
  exact rvs_map fun t _ => by simp only [RV]
def rgH (mk : List D → Hd) (a b : Int) : Option Hd := if rgOk a b then some (mk (rgD a b)) else none
def eRg1 (mk : List D → Hd) (m : M) : M := fun env => (m env).bind fun r => match r.1 with
  | .val (.int n) => match rgH mk 0 n with
    | some h => .ret (h, r.2)
    | none => .fail
  | _ => .fail
def eRg2 (mk : List D → Hd) (ma mb : M) : M := fun env => (ma env).bind fun r1 => match r1.1 with
  | .val (.int i) => (mb r1.2).bind fun r2 => match r2.1 with
    | .val (.int j) => match rgH mk i j with
      | some h => .ret (h, r2.2)
      | none => .fail
    | _ => .fail
  | _ => .fail
def mkL (l : List D) : Hd := .tmp (.lst l)
def mkT (l : List D) : Hd := .val (.tup l)
theorem rgL {a b : Int} {h : Hd} {Q : VK} (e : rgH mkL a b = some h) (res : ResK K F P H h Q) : RgOk a b ∧ ∀ q, H q = none → Q (.ref q) (L2.upd H q (.lst (rgV a b))) := by
  unfold rgH at e
  split at e
  · rename_i ok
    cases e
    exact ⟨rgOk_of ok, fun q hq => res q _ _ rfl RVs.rg hq⟩
  · cases e
theorem rgT {a b : Int} {h : Hd} {Q : VK} (e : rgH mkT a b = some h) (res : ResK K F P H h Q) : RgOk a b ∧ ∀ q, H q = none → Q (.ref q) (L2.upd H q (.tup (rgV a b))) := by
  unfold rgH at e
  split at e
  · rename_i ok
    cases e
    exact ⟨rgOk_of ok, fun q hq => res.2 q _ _ rfl RVs.rg hq⟩
  · cases e
theorem rgH_ns {mk : List D → Hd} (hm : ∀ l, noSl (mk l) = true) {a b : Int} {h : Hd} (e : rgH mk a b = some h) : ∀ i, h ≠ .slot i := by
  unfold rgH at e
  split at e
  · cases e; exact noSl_ne (hm _)
  · cases e
theorem eRg1_ok {mk : List D → Hd} (hm : ∀ l, noSl (mk l) = true) {m : M} {Q : VK} {G : Int → Int → Hp → Prop} (hg : ∀ {F P : Addr → Prop} {H : Hp} {a b : Int} {h : Hd}, rgH mk a b = some h → ResK K F P H h Q → G a b H) (h : tM K Z (eRg1 mk m) σ H Q) : tRg1 (tM K Z m) σ H G := by
  obtain ⟨N, F, P, env, S, h⟩ := h
  refine ⟨N, F, P, env, S, T.ok_mono (fun N1 r1 q1 => ?_) (T.ok_bind h)⟩
  intro v H1 F1 P1 E1 S1 R1 Y1
  split at q1
  · rename_i n e
    rw [e] at R1
    have R1' : RV K F1 P1 H1 (.int n) v := R1
    simp only [RV] at R1'
    split at q1
    · rename_i h' e2
      exact ⟨n, R1', hg e2 (Post.res S1 (rgH_ns hm e2) (Post.from E1 q1))⟩
    · exact q1.elim
  · exact q1.elim
theorem eRg2_ok {mk : List D → Hd} (hm : ∀ l, noSl (mk l) = true) {ma mb : M} {Q : VK} {G : Int → Int → Hp → Prop} (hg : ∀ {F P : Addr → Prop} {H : Hp} {a b : Int} {h : Hd}, rgH mk a b = some h → ResK K F P H h Q → G a b H) (h : tM K Z (eRg2 mk ma mb) σ H Q) : tRg2 (tM K Z ma) (tM K Z mb) σ H G := by
  obtain ⟨N, F, P, env, S, h⟩ := h
  refine ⟨N, F, P, env, S, T.ok_mono (fun N1 r1 q1 => ?_) (T.ok_bind h)⟩
  intro v H1 F1 P1 E1 S1 R1 Y1
  split at q1
  · rename_i i e
    rw [e] at R1
    have R1' : RV K F1 P1 H1 (.int i) v := R1
    simp only [RV] at R1'
    refine ⟨N1, F1, P1, r1.2, S1, T.ok_mono (fun N2 r2 q2 => ?_) (T.ok_bind q1)⟩
    intro u H2 F2 P2 E2 S2 R2 Y2
    split at q2
    · rename_i j e2
      rw [e2] at R2
      have R2' : RV K F2 P2 H2 (.int j) u := R2
      simp only [RV] at R2'
      split at q2
      · rename_i h' e3
        exact ⟨i, j, R1', R2', hg e3 (Post.res S2 (rgH_ns hm e3) (Post.from (E1.trans E2) q2))⟩
      · exact q2.elim
    · exact q2.elim
  · exact q1.elim
end
section
variable {X : Cx} {Z : Fr} {k : Nat}
/-! ### the rules: expressions -/
theorem m_var (i : Nat) {x : Str} {pos : Pos} (hN : X.N[i]? = some x := by rfl) (hv : Vis X.env.scope x := by first | exact Or.inl rfl | exact Or.inr (Or.inl rfl) | exact Or.inr (Or.inr rfl)) (hd : (x == ("__debug__" : Str)) = false := by decide) (hcd : (x == ("__classdict__" : Str)) = false := by decide) :
    PE X (.Name x pos) (tM X.K Z (eVar i)) := PE.imp (pe_var hN hv hd hcd) fun _ _ _ => eVar_ok
theorem m_int {i : Int} {j : Nat} {pos : Pos} : PE X (.Constant (.int i) j pos) (tM X.K Z (eC (.int i))) := PE.imp pe_int fun _ _ _ => eC_ok fun _ _ _ => by simp only [RV]
theorem m_bl {b : Bool} {j : Nat} {pos : Pos} : PE X (.Constant (.bool b) j pos) (tM X.K Z (eC (.bl b))) := PE.imp pe_bl fun _ _ _ => eC_ok fun _ _ _ => by simp only [RV]
theorem m_non {j : Nat} {pos : Pos} : PE X (.Constant .none j pos) (tM X.K Z (eC .non)) := PE.imp pe_non fun _ _ _ => eC_ok fun _ _ _ => by simp only [RV]
theorem m_str {x : Str} {j : Nat} {pos : Pos} (l : List Nat) (h : x = ⟨l.toArray⟩ := by rfl) : PE X (.Constant (.str x) j pos) (tM X.K Z (eC (.str l))) := PE.imp pe_str fun _ _ _ => eC_ok fun _ _ _ => by simp only [RV]; rw [h]
/-- a module's own constant -/
def CAt (mg : Str → Option Value) (x : Str) (d : D) : Prop := ∃ u v, mg x = some u ∧ RelV v u ∧ ∀ K F P H, RV K F P H d v
theorem m_glob {x : Str} {d : D} {pos : Pos} (c : CAt X.mg x d) (hg : Gl X x := by rfl) (hd : (x == ("__debug__" : Str)) = false := by decide) : PE X (.Name x pos) (tM X.K Z (eC d)) := by
  obtain ⟨u, v, hm, r, rv⟩ := c
  exact PE.imp (pe_glob hg hm r hd) fun _ _ _ => eC_ok fun F P H => rv _ F P H
section
variable {a b c : Expr} {ma mb mc : M} {pos : Pos}
theorem m_op {op : Operator} {g : D → D → Option Hd} (ho : OpR X (binaryOp op) (rD X.K g)) (n : NS2 g) (ha : PE X a (tM X.K Z ma)) (hb : PE X b (tM X.K Z mb)) : PE X (.BinOp a op b pos) (tM X.K Z (eOp g ma mb)) :=
  PE.imp (pe_op ho ha hb) fun _ _ _ => eOp_ok (op2_rD n)
theorem m_cmp {op : CmpOp} {g : D → D → Option Hd} (ho : OpR X (compareOp op) (rD X.K g)) (n : NS2 g) (ha : PE X a (tM X.K Z ma)) (hb : PE X b (tM X.K Z mb)) (hm : behindInMarks op b = false) : PE X (.Compare a [op] [b] pos) (tM X.K Z (eOp g ma mb)) :=
  PE.imp (pe_cmpR ho ha hb hm) fun _ _ _ => eOp_ok (op2_rD n)
theorem m_chain {op op' : CmpOp} {g g' : D → D → Option Hd} (ho : OpR X (compareOp op) (rD X.K g)) (n : NS2 g) (ho' : OpR X (compareOp op') (rD X.K g')) (n' : NS2 g') (ha : PE X a (tM X.K Z ma)) (hb : PE X b (tM X.K Z mb)) (hc : PE X c (tM X.K Z mc)) (hm : lastMarks [op, op'] [b, c] = false := by with_unfolding_all rfl) :
    PE X (.Compare a [op, op'] [b, c] pos) (tM X.K Z (eChain g g' ma mb mc)) := PE.imp (pe_chain ho ho' ha hb hc hm) fun _ _ _ => eChain_ok (op2_rD n) (op2_rD n')
theorem m_un {op : UnaryOp} {g : D → Option Hd} (ho : UnR X (unaryOp op) (rD1 X.K g)) (n : NS1 g) (ha : PE X a (tM X.K Z ma)) : PE X (.UnaryOp op a pos) (tM X.K Z (eUn g ma)) := PE.imp (pe_un ho ha) fun _ _ _ => eUn_ok (op1_rD n)
theorem m_not (ha : PE X a (tM X.K Z ma)) : PE X (.UnaryOp .Not a pos) (tM X.K Z (eNotV ma)) := PE.imp (pe_not ha) fun _ _ _ => eNotV_ok
theorem m_one {op : BoolOp} (ha : PE X a (tM X.K Z ma)) : PE X (.BoolOp op [a] pos) (tM X.K Z ma) := pe_one ha
theorem m_and {rest : List Expr} (ha : PE X a (tM X.K Z ma)) (hb : PE X (.BoolOp .And (b :: rest) pos) (tM X.K Z mb)) : PE X (.BoolOp .And (a :: b :: rest) pos) (tM X.K Z (eAnd ma mb)) := PE.imp (pe_and ha hb) fun _ _ _ => eAnd_ok
theorem m_or {rest : List Expr} (ha : PE X a (tM X.K Z ma)) (hb : PE X (.BoolOp .Or (b :: rest) pos) (tM X.K Z mb)) : PE X (.BoolOp .Or (a :: b :: rest) pos) (tM X.K Z (eOr ma mb)) := PE.imp (pe_or ha hb) fun _ _ _ => eOr_ok
theorem m_if {t : MT} (hc : PT X c (tT X.K Z t)) (ha : PE X a (tM X.K Z ma)) (hb : PE X b (tM X.K Z mb)) : PE X (.IfExp c a b pos) (tM X.K Z (eIf t ma mb)) := PE.imp (pe_ifExp hc ha hb) fun _ _ _ => eIf_ok
theorem m_ix (ha : PE X a (tM X.K Z ma)) (hb : PE X b (tM X.K Z mb)) (hs : PlainIx b := by intro _ _; rfl) : PE X (.Subscript a b pos) (tM X.K Z (eOp gIx ma mb)) := PE.imp (pe_ix ix_M ha hb hs) fun _ _ _ => eOp_ok (op2_rD gIx_ns)
theorem o_none : PO X none (tO X.K Z oNone) := PO.imp po_none fun h => oNone_ok h
theorem o_some (ha : PE X a (tM X.K Z ma)) : PO X (some a) (tO X.K Z (oSome ma)) := PO.imp (po_some ha) fun h => oSome_ok h
theorem m_sl {lo hi : Option Expr} {ml mh : MO} {p2 : Pos} (ha : PE X a (tM X.K Z ma)) (hl : PO X lo (tO X.K Z ml)) (hh : PO X hi (tO X.K Z mh)) : PE X (.Subscript a (.Slice lo hi none p2) pos) (tM X.K Z (eSl ma ml mh)) := PE.imp (pe_slice sl_M ha hl hh) fun _ _ _ => eSl_ok
/-! ### arguments, displays -/
theorem a_nil : PA X [] (tH X.K Z hNil) := PA.imp pa_nil fun _ _ _ => hNil_ok
theorem a_cons {es : List Expr} {ms : MH} (ha : PE X a (tM X.K Z ma)) (hr : PA X es (tH X.K Z ms)) (hs : starEach (a :: es) X.env = (false, eval a X.env) :: starEach es X.env := by rfl) : PA X (a :: es) (tH X.K Z (hCons ma ms)) := PA.imp (pa_cons ha hr hs) fun _ _ _ => hCons_ok
theorem a_star {es : List Expr} {ms : MH} {p : Pos} (ha : PE X a (tM X.K Z ma)) (hr : PA X es (tH X.K Z ms)) (hs : starEach (.Starred a p :: es) X.env = (true, eval a X.env) :: starEach es X.env := by rfl) : PA X (.Starred a p :: es) (tH X.K Z (hStar ma ms)) := PA.imp (StX.pa_star ha hr hs) fun _ _ _ => hStar_ok
theorem m_tup {es : List Expr} {ms : MH} {x1 : Nat} {n : Nat} (h : PA X es (tH X.K Z ms)) (hn : HLen n ms) (hz : n ≤ 1000 := by decide) : PE X (.Tuple es x1 pos) (tM X.K Z (eTup ms)) := PE.imp (pe_tup h) fun _ _ _ => eTup_ok hn (by rw [sizeLine_eq]; omega)
theorem m_lst {es : List Expr} {ms : MH} {n : Nat} (h : PA X es (tH X.K Z ms)) (hn : HLen n ms) (hz : n ≤ 1000 := by decide) : PE X (.List es pos) (tM X.K Z (eLst ms)) := PE.imp (pe_lst h) fun _ _ _ => eLst_ok hn (by rw [sizeLine_eq]; omega)
theorem m_tupS {es : List Expr} {ms : MH} {x1 : Nat} (h : PA X es (tH X.K Z ms)) : PE X (.Tuple es x1 pos) (tM X.K Z (eTup (hFew ms))) := PE.imp (pe_tup h) fun _ _ _ => eTupS_ok
theorem m_lstS {es : List Expr} {ms : MH} (h : PA X es (tH X.K Z ms)) : PE X (.List es pos) (tM X.K Z (eLst (hFew ms))) := PE.imp (pe_lst h) fun _ _ _ => eLstS_ok
end
/-! ### calls -/
/-- a def of the text, as it is known -/
def Has (Pg : Program) (w : World) (K : PySem.W.Frag) (mg : Str → Option Value) (base : Heap) (k : Nat) (x : Str) (np : Nat) (g : List D → T D) : Prop :=
  ∃ f fd ps, mg x = some (.ref f) ∧ PySem.W.keepIn K (.ref f) = true ∧ Binds K fd ps [] ∧ ps.length = np ∧ FnG Pg w K mg base k f fd ps (spM K g np)
theorem Has.mono {Pg : Program} {w : World} {K : PySem.W.Frag} {mg : Str → Option Value} {base : Heap} {k k' : Nat} {x : Str} {np : Nat} {g : List D → T D} (h : Has Pg w K mg base k x np g) (l : k ≤ k') : Has Pg w K mg base k' x np g := by
  obtain ⟨f, fd, ps, a, b, c, d, e⟩ := h
  exact ⟨f, fd, ps, a, b, c, d, e.mono l⟩
variable {e : Expr} {es : List Expr} {p pos : Pos} {x : Str} {ms : MH}
theorem m_call {np : Nat} {g : List D → T D} (h : Has X.prog X.w X.K X.mg X.base k x np g) (hr : GRoom k X.A) (hn : HLen np ms) (ha : PA X (e :: es) (tH X.K Z ms)) (hg : Gl X x := by rfl) (hdb : (x == ("__debug__" : Str)) = false := by decide)
    (he : starEach (e :: es) X.env = (false, eval e X.env) :: starEach es X.env := by rfl) (hpl : (backTo pos (starEach es X.env)).any (·.1) = false := by rfl) : PE X (.Call (.Name x p) (e :: es) [] pos) (tM X.K Z (eDef g ms)) := by
  obtain ⟨f, fd, ps, hm, hk, hb, hp, F⟩ := h
  exact PE.imp (pe_callG F hr hg hm hk hb ha hdb he hpl) fun _ _ _ => eDef_ok hn
theorem m_fn {id : String} {g : List D → Option Hd} (hc : CallR X (.builtin id) (rDN X.K g)) (n : NSN g) (hm : X.mg x = none) (hv : bootBuiltins x = some (.builtin id)) (ha : PA X (e :: es) (tH X.K Z ms)) (hg : Gl X x := by rfl) (hn : x ≠ "__name__" := by decide) (hdb : (x == ("__debug__" : Str)) = false := by decide)
    (he : starEach (e :: es) X.env = (false, eval e X.env) :: starEach es X.env := by rfl) (hpl : (backTo pos (starEach es X.env)).any (·.1) = false := by rfl) : PE X (.Call (.Name x p) (e :: es) [] pos) (tM X.K Z (eCall ms g)) :=
  PE.imp (pe_callB hc hg hm hv ha hn hdb he hpl) fun _ _ _ => eCall_ok (opN_rD n)
theorem m_ty {id : String} {g : List D → Option Hd} (hc : CallR X (.type id) (rDN X.K g)) (n : NSN g) (hm : X.mg x = none) (hv : bootBuiltins x = some (.type id)) (ha : PA X (e :: es) (tH X.K Z ms)) (hg : Gl X x := by rfl) (hn : x ≠ "__name__" := by decide) (hdb : (x == ("__debug__" : Str)) = false := by decide)
    (he : starEach (e :: es) X.env = (false, eval e X.env) :: starEach es X.env := by rfl) (hpl : (backTo pos (starEach es X.env)).any (·.1) = false := by rfl) : PE X (.Call (.Name x p) (e :: es) [] pos) (tM X.K Z (eCall ms g)) :=
  PE.imp (pe_callTy hc hg hm hv ha hn hdb he hpl) fun _ _ _ => eCall_ok (opN_rD n)
theorem m_isi {y : Str} {T' : String} {q : Pos} {m : M} (hm : X.mg "isinstance" = none) (hm2 : X.mg y = none) (hv : bootBuiltins y = some (.type T')) (ha : PE X e (tM X.K Z m)) (hg : Gl X "isinstance" := by rfl) (hg2 : Gl X y := by rfl) (hn : y ≠ "__name__" := by decide) (hdb : (y == ("__debug__" : Str)) = false := by decide)
    (he : starEach [e, .Name y q] X.env = (false, eval e X.env) :: starEach [.Name y q] X.env := by rfl) (hs2 : starEach [.Name y q] X.env = (false, eval (.Name y q) X.env) :: starEach [] X.env := by rfl) (hpl : (backTo pos (starEach [.Name y q] X.env)).any (·.1) = false := by rfl) :
    PE X (.Call (.Name "isinstance" p) [e, .Name y q] [] pos) (tM X.K Z (eIsi T' m)) :=
  PE.imp (pe_callB call_isi hg hm (by decide +kernel) (pa_cons ha (pa_cons (pe_bltn hg2 hm2 hv (v := .ty T') rfl hn hdb) pa_nil hs2) he) (by decide) (by decide) he hpl) fun _ _ _ => eIsi_ok
theorem m_rep {f : Bool → Bool} {op : CmpOp} {r : R2} {e2 : Expr} {m1 m2 : M} {p2 pos2 pos3 : Pos} (hop : OpR X (compareOp op) r) (hr : ∀ (x y : Str) (H : Hp) (Q : VK), Q (.bl (f (decide (x = y)))) H → r (.str x) (.str y) H Q) (hm : X.mg "repr" = none) (gr : GRoom k X.A) (h1 : PE X e (tM X.K Z m1)) (h2 : PE X e2 (tM X.K Z m2))
    (hmk : behindInMarks op (.Call (.Name "repr" p2) [e2] [] pos2) = false) (hg : Gl X "repr" := by rfl) (he : starEach [e] X.env = (false, eval e X.env) :: starEach [] X.env := by rfl) (he2 : starEach [e2] X.env = (false, eval e2 X.env) :: starEach [] X.env := by rfl) :
    PE X (.Compare (.Call (.Name "repr" p) [e] [] pos) [op] [.Call (.Name "repr" p2) [e2] [] pos2] pos3) (tM X.K Z (eRep f m1 m2)) := by
  have hc : CallR X (.builtin "repr") (rRep X.K) := call_reprM gr.g (by have := gr.r.un; have : DEEP = 40 := rfl; omega)
  exact PE.imp (pe_cmpR hop (pe_callB hc hg hm (by decide +kernel) (pa_cons h1 pa_nil he) (by decide) (by decide) he (by rfl)) (pe_callB hc hg hm (by decide +kernel) (pa_cons h2 pa_nil he2) (by decide) (by decide) he2 (by rfl)) hmk) fun _ _ _ => eRep_ok hr
theorem m_listRg1 {m : M} {p2 pos2 : Pos} (hl : X.mg "list" = none) (hm : X.mg "range" = none) (ha : PE X e (tM X.K Z m)) (hc : X.calm = true := by rfl) (g1 : Gl X "list" := by rfl) (g2 : Gl X "range" := by rfl) (na : starEach [e] X.env = (false, eval e X.env) :: starEach [] X.env := by rfl)
    (nb : starEach [.Call (.Name "range" p2) [e] [] pos2] X.env = (false, eval (.Call (.Name "range" p2) [e] [] pos2) X.env) :: starEach [] X.env := by rfl) : PE X (.Call (.Name "list" p) [.Call (.Name "range" p2) [e] [] pos2] [] pos) (tM X.K Z (eRg1 mkL m)) :=
  PE.imp (pe_listRg hc g1 hl (prg_1 g2 hm ha na) nb) fun _ _ _ h => eRg1_ok (fun _ => rfl) (fun e r => rgL e r) h
theorem m_listRg2 {e2 : Expr} {m m2 : M} {p2 pos2 : Pos} (hl : X.mg "list" = none) (hm : X.mg "range" = none) (ha : PE X e (tM X.K Z m)) (hb : PE X e2 (tM X.K Z m2)) (hc : X.calm = true := by rfl) (g1 : Gl X "list" := by rfl) (g2 : Gl X "range" := by rfl) (na : starEach [e, e2] X.env = (false, eval e X.env) :: starEach [e2] X.env := by rfl)
    (na2 : starEach [e2] X.env = (false, eval e2 X.env) :: starEach [] X.env := by rfl) (hp : (backTo pos2 (starEach [e2] X.env)).any (·.1) = false := by rfl)
    (nb : starEach [.Call (.Name "range" p2) [e, e2] [] pos2] X.env = (false, eval (.Call (.Name "range" p2) [e, e2] [] pos2) X.env) :: starEach [] X.env := by rfl) : PE X (.Call (.Name "list" p) [.Call (.Name "range" p2) [e, e2] [] pos2] [] pos) (tM X.K Z (eRg2 mkL m m2)) :=
  PE.imp (pe_listRg hc g1 hl (prg_2 g2 hm ha hb na na2 hp) nb) fun _ _ _ h => eRg2_ok (fun _ => rfl) (fun e r => rgL e r) h
theorem m_tupRg2 {e2 : Expr} {m m2 : M} {p2 pos2 : Pos} (hl : X.mg "tuple" = none) (hm : X.mg "range" = none) (ha : PE X e (tM X.K Z m)) (hb : PE X e2 (tM X.K Z m2)) (hc : X.calm = true := by rfl) (g1 : Gl X "tuple" := by rfl) (g2 : Gl X "range" := by rfl) (na : starEach [e, e2] X.env = (false, eval e X.env) :: starEach [e2] X.env := by rfl)
    (na2 : starEach [e2] X.env = (false, eval e2 X.env) :: starEach [] X.env := by rfl) (hp : (backTo pos2 (starEach [e2] X.env)).any (·.1) = false := by rfl)
    (nb : starEach [.Call (.Name "range" p2) [e, e2] [] pos2] X.env = (false, eval (.Call (.Name "range" p2) [e, e2] [] pos2) X.env) :: starEach [] X.env := by rfl) : PE X (.Call (.Name "tuple" p) [.Call (.Name "range" p2) [e, e2] [] pos2] [] pos) (tM X.K Z (eRg2 mkT m m2)) :=
  PE.imp (pe_tupRg hc g1 hl (prg_2 g2 hm ha hb na na2 hp) nb) fun _ _ _ h => eRg2_ok (fun _ => rfl) (fun e r => rgT e r) h
theorem m_tupRg1 {m : M} {p2 pos2 : Pos} (hl : X.mg "tuple" = none) (hm : X.mg "range" = none) (ha : PE X e (tM X.K Z m)) (hc : X.calm = true := by rfl) (g1 : Gl X "tuple" := by rfl) (g2 : Gl X "range" := by rfl) (na : starEach [e] X.env = (false, eval e X.env) :: starEach [] X.env := by rfl)
    (nb : starEach [.Call (.Name "range" p2) [e] [] pos2] X.env = (false, eval (.Call (.Name "range" p2) [e] [] pos2) X.env) :: starEach [] X.env := by rfl) : PE X (.Call (.Name "tuple" p) [.Call (.Name "range" p2) [e] [] pos2] [] pos) (tM X.K Z (eRg1 mkT m)) :=
  PE.imp (pe_tupRg hc g1 hl (prg_1 g2 hm ha na) nb) fun _ _ _ h => eRg1_ok (fun _ => rfl) (fun e r => rgT e r) h
/-! ### methods -/
theorem m_mut {r : V → List V → Hp → VK → Prop} {g : List D → List D → Option (List D × D)} {id : String} {name y : Str} {i : Nat} {apos q : Pos} (hr : OpMut X.K r g) (hmt : MtR X id r) (slot : PySem.Slot "list" name id) (hty : typeOf (.builtin id) = pure (.type "method_descriptor")) (ho : PE X (.Name y q) (tVar i)) (ha : PA X (e :: es) (tH X.K Z ms))
    (hbase : attributeBase (.Name y q) name X.env (eval (.Name y q) X.env) = eval (.Name y q) X.env := by rfl)
    (hfew : ((backTo pos (starEach (e :: es) X.env)).all (fun x => !x.1) && (backToKw pos (keywordEach [] X.env)).all (fun x => x.1.isSome) && decide ((e :: es).length + ([] : List Keyword).length + (if ([] : List Keyword).isEmpty then 0 else 1) < 30)) = true := by rfl)
    (hline : (apos.endLine == pos.line) = true := by rfl) (hs : starEach (e :: es) X.env = (false, eval e X.env) :: starEach es X.env := by rfl) (hplain : (backTo pos (starEach es X.env)).any (·.1) = false := by rfl) :
    PE X (.Call (.Attribute (.Name y q) name apos) (e :: es) [] pos) (tM X.K Z (eMut g i ms)) :=
  PE.imp (pe_bm PySem.F.plainAttrs_list slot hty hmt ho ha hbase hfew hline hs hplain) fun _ _ _ => eMut_ok hr
theorem m_mut0 {r : V → List V → Hp → VK → Prop} {g : List D → List D → Option (List D × D)} {id : String} {name y : Str} {i : Nat} {apos q : Pos} (hr : OpMut X.K r g) (hmt : MtR X id r) (slot : PySem.Slot "list" name id) (hty : typeOf (.builtin id) = pure (.type "method_descriptor")) (ho : PE X (.Name y q) (tVar i))
    (hbase : attributeBase (.Name y q) name X.env (eval (.Name y q) X.env) = eval (.Name y q) X.env := by rfl) (hline : (apos.endLine == pos.line) = true := by rfl) : PE X (.Call (.Attribute (.Name y q) name apos) [] [] pos) (tM X.K Z (eMut g i hNil)) :=
  PE.imp (pe_bm0 PySem.F.plainAttrs_list slot hty hmt ho hbase hline) fun _ _ _ => eMut0_ok hr
theorem m_mt {g : D → List D → Option Hd} {o : Expr} {m : M} {id : String} {name : Str} {apos : Pos} (hmt : MtR X id (rMtM X.K g)) (n : NSM g) (slot : PySem.Slot "list" name id) (hty : typeOf (.builtin id) = pure (.type "method_descriptor")) (ho : PE X o (tM X.K Z m)) (ha : PA X (e :: es) (tH X.K Z ms))
    (hbase : attributeBase o name X.env (eval o X.env) = eval o X.env := by rfl)
    (hfew : ((backTo pos (starEach (e :: es) X.env)).all (fun x => !x.1) && (backToKw pos (keywordEach [] X.env)).all (fun x => x.1.isSome) && decide ((e :: es).length + ([] : List Keyword).length + (if ([] : List Keyword).isEmpty then 0 else 1) < 30)) = true := by rfl)
    (hline : (apos.endLine == pos.line) = true := by rfl) (hs : starEach (e :: es) X.env = (false, eval e X.env) :: starEach es X.env := by rfl) (hplain : (backTo pos (starEach es X.env)).any (·.1) = false := by rfl) :
    PE X (.Call (.Attribute o name apos) (e :: es) [] pos) (tM X.K Z (eMt g m ms)) :=
  PE.imp (pe_bm PySem.F.plainAttrs_list slot hty hmt ho ha hbase hfew hline hs hplain) fun _ _ _ => eMt_ok n
/-! ### tests -/
theorem t_val {m : M} (h : PE X e (tM X.K Z m)) (he : ∀ whole, isTrue e X.env whole = (do let v ← whole; standAt e.pos; holding [v] (truthy v)) := by intro _; rfl) : PT X e (tT X.K Z (mTest m)) := PT.imp (pt_val h he) fun _ _ _ => mTest_ok
theorem t_cmp {op : CmpOp} {a b : Expr} {ma mb : M} {g : D → D → Option Hd} (ho : OpR X (compareOp op) (rD X.K g)) (n : NS2 g) (ha : PE X a (tM X.K Z ma)) (hb : PE X b (tM X.K Z mb)) (hm : behindInMarks op b = false) : PT X (.Compare a [op] [b] pos) (tT X.K Z (mTest (eOp g ma mb))) :=
  PT.imp (pt_cmpR ho ha hb hm) fun _ _ _ h => eOp_ok (op2_rD n) (mTest_ok h)
theorem t_chain {op op' : CmpOp} {a b c : Expr} {ma mb mc : M} {g g' : D → D → Option Hd} (ho : OpR X (compareOp op) (rD X.K g)) (n : NS2 g) (ho' : OpR X (compareOp op') (rD X.K g')) (n' : NS2 g') (ha : PE X a (tM X.K Z ma)) (hb : PE X b (tM X.K Z mb)) (hc : PE X c (tM X.K Z mc)) (hm : lastMarks [op, op'] [b, c] = false := by with_unfolding_all rfl) :
    PT X (.Compare a [op, op'] [b, c] pos) (tT X.K Z (mTest (eChain g g' ma mb mc))) := PT.imp (pt_chain ho ho' ha hb hc hm) fun _ _ _ h => eChain_ok (op2_rD n) (op2_rD n') (mTest_ok h)
theorem t_not {t : MT} (h : PT X e (tT X.K Z t)) : PT X (.UnaryOp .Not e pos) (tT X.K Z (mNot t)) := PT.imp (pt_not h) fun _ _ _ => mNot_ok
theorem w_one {t : MT} (h : PT X e (tT X.K Z t)) : PW X (.BoolOp .And [e] pos) (tT X.K Z t) := pw_and1 h
theorem w_one' {t : MT} (h : PT X e (tT X.K Z t)) : PW X (.BoolOp .Or [e] pos) (tT X.K Z t) := pw_or1 h
theorem PW.imp {e : Expr} {t t' : TT} (p : PW X e t) (h : ∀ σ H Q, t' σ H Q → t σ H Q) : PW X e t' := ⟨fun wh pins s σ H Q I hw => p.run wh pins s σ H Q I (h σ H Q hw)⟩
theorem w_and {b : Expr} {t u : MT} {rest : List Expr} (h : PT X e (tT X.K Z t)) (h' : PW X (.BoolOp .And (b :: rest) pos) (tT X.K Z u)) : PW X (.BoolOp .And (e :: b :: rest) pos) (tT X.K Z (mAnd t u)) := PW.imp (pw_and h h') fun _ _ _ => mAnd_ok
theorem w_or {b : Expr} {t u : MT} {rest : List Expr} (h : PT X e (tT X.K Z t)) (h' : PW X (.BoolOp .Or (b :: rest) pos) (tT X.K Z u)) : PW X (.BoolOp .Or (e :: b :: rest) pos) (tT X.K Z (mOr t u)) := PW.imp (pw_or h h') fun _ _ _ => mOr_ok
theorem t_tru {m : M} (h : PE X e (tM X.K Z m)) (he : ∀ whole, isTrue e X.env whole = (do let v ← whole; standAt e.pos; holding [v] (truthy v)) := by intro _; rfl) : PT X e (tT X.K Z (mTru m)) := PT.imp (pt_truth h he) fun _ _ _ => mTru_ok
/-! ### statements -/
def mYes : MT := fun env => .ret (true, env)
theorem mYes_ok {K : PySem.W.Frag} {σ : L2.St} {H : Hp} {Q : Bool → Hp → Prop} (h : tT K Z mYes σ H Q) : tYes σ H Q := by
  obtain ⟨N, F, P, env, S, h⟩ := h
  exact h H F P Ext.refl S
theorem ts_nil : PTs X [] (tT X.K Z mYes) := ⟨fun pins s σ H Q I hw => pts_nil.run pins s σ H Q I (mYes_ok hw)⟩
theorem ts_one {c : Expr} {t : MT} (h : PT X c (tT X.K Z t)) : PTs X [c] (tT X.K Z t) := pts_one h
theorem ss_nil : PSs X [] (sM X.K Z sNext) := PSs.imp pss_nil fun _ _ _ => sNext_ok
theorem ss_one {st : Stmt} {m : MS} (h : PS X st (sM X.K Z m)) : PSs X [st] (sM X.K Z m) := pss_one h
theorem ss_cons {st : Stmt} {rest : List Stmt} {m n : MS} (h : PS X st (sM X.K Z m)) (h' : PSs X rest (sM X.K Z n)) : PSs X (st :: rest) (sM X.K Z (sSeq m n)) := PSs.imp (pss_cons h h') fun _ _ _ => sSeq_ok
theorem s_if {c : Expr} {a b : List Stmt} {t : MT} {m n : MS} (hc : PT X c (tT X.K Z t)) (ha : PSs X a (sM X.K Z m)) (hb : PSs X b (sM X.K Z n)) : PS X (.If c a b pos) (sM X.K Z (sIf t m n)) := PS.imp (ps_if hc ha hb) fun _ _ _ => sIf_ok
theorem s_ret {m : M} (h : PE X e (tM X.K Z m)) : PS X (.Return (some e) pos) (sM X.K Z (sRet m)) := PS.imp (ps_ret h) fun _ _ _ => sRet_ok
theorem s_retN : PS X (.Return none pos) (sM X.K Z sRetN) := PS.imp ps_retN fun _ _ _ => sRetN_ok
theorem s_never {st : Stmt} : PS X st (sM X.K Z sNever) := PS.imp ps_never fun _ _ _ => sNever_ok
theorem s_break : PS X (.Break pos) (sM X.K Z sBreak) := PS.imp ps_break fun _ _ _ => sBreak_ok
theorem s_cont : PS X (.Continue pos) (sM X.K Z sCont) := PS.imp ps_continue fun _ _ _ => sCont_ok
theorem s_expr {m : M} (h : PE X e (tM X.K Z m)) (hs : swapsWith e none pos.line X.env = pure false := by rfl) : PS X (.Expr e pos) (sM X.K Z (sDrop m)) := PS.imp (ps_expr h hs) fun _ _ _ => sDrop_ok
theorem s_set {m : M} {i : Nat} {pos' : Pos} (nd : X.N.Nodup) (h : PE X e (tM X.K Z m)) (hi : X.N[i]? = some x := by rfl) (hx : Loc X.env.scope x := by first | exact Or.inl rfl | exact Or.inr rfl) (hs : swapsWith e (some (.Name x pos')) pos.line X.env = pure false := by rfl) (hf : X.fn x = true ∨ X.env.scope.names.lookup x = some .local := by first | exact .inl rfl | exact .inr rfl) :
    PS X (.Assign [.Name x pos'] e pos) (sM X.K Z (sSet i m)) := PS.imp (ps_set nd hi hx h hs hf) fun _ _ _ => sSet_ok
theorem s_store {m mi : M} {i : Nat} {y : Str} {a : Expr} {q q2 : Pos} (ho : PE X (.Name y q) (tVar i)) (ha : PE X a (tM X.K Z mi)) (h : PE X e (tM X.K Z m)) (hs : swapsWithSole [.Subscript (.Name y q) a q2] e pos.line X.env = pure false := by rfl) (hw : swappedStores [.Subscript (.Name y q) a q2] e X.env = pure none := by rfl)
    (h1 : (assignEach [.Subscript (.Name y q) a q2] X.env).map (·.2) = [assign (.Subscript (.Name y q) a q2) X.env] := by rfl)
    (hsub : ∀ v, assign (.Subscript (.Name y q) a q2) X.env v = (do
      let ov ← holding [v] (eval (.Name y q) X.env)
      let iv ← holding [v, ov] (eval a X.env)
      standAt q2
      holding [v, ov, iv] (setItem ov iv v)
      release [v, ov, iv] []) := by intro _; rfl) : PS X (.Assign [.Subscript (.Name y q) a q2] e pos) (sM X.K Z (sStore i mi m)) :=
  PS.imp (ps_asg h (pg_sub ho ha set_list hsub) hs hw h1) fun _ _ _ => sStore_ok
/-! ### targets, loops, comprehensions -/
/-- a target with the slots that it writes -/
structure GTo (X : Cx) (K : PySem.W.Frag) (tg : Expr) (t : TG) (g : GM) (sl : List Nat) : Prop where
  p : PG X tg t
  o : GOk K t g sl
structure GsTo (X : Cx) (K : PySem.W.Frag) (tg : List Expr) (t : TGs) (g : List D → Ev → Option Ev) (sl : List Nat) : Prop where
  p : PGs X tg t
  o : GsOk K t g sl
variable {K : PySem.W.Frag}
theorem g_name (i : Nat) (nd : X.N.Nodup) (hi : X.N[i]? = some x := by rfl) (hx : Loc X.env.scope x := by first | exact Or.inl rfl | exact Or.inr rfl) (hf : X.fn x = true ∨ X.env.scope.names.lookup x = some .local := by first | exact .inl rfl | exact .inr rfl) : GTo X K (.Name x pos) (gName i) (gNm i) [i] :=
  ⟨pg_name nd hi hx hf, gNm_ok⟩
theorem gs_nil : GsTo X K [] gNil gsNil [] := ⟨pgs_nil, gsNil_ok⟩
theorem gs_cons {tg : Expr} {ts : List Expr} {t : TG} {u : TGs} {g : GM} {gs : List D → Ev → Option Ev} {sl sls : List Nat} (h : GTo X K tg t g sl) (h' : GsTo X K ts u gs sls) (hs : (assignEach (tg :: ts) X.env).map (·.2) = assign tg X.env :: (assignEach ts X.env).map (·.2) := by rfl) : GsTo X K (tg :: ts) (gCons t u) (gsCons g gs) (sl ++ sls) :=
  ⟨pgs_cons h.p h'.p hs, gsCons_ok h.o h'.o⟩
theorem g_tup {ts : List Expr} {t : TGs} {gs : List D → Ev → Option Ev} {sl : List Nat} {n k : Nat} (h : GsTo X K ts t gs sl) (hK : X.K = K := by rfl) (hc : X.calm = true := by rfl) (hn : (assignEach ts X.env).length = n := by rfl) (hst : (assignEach ts X.env).findIdx? (·.1) = none := by rfl) : GTo X K (.Tuple ts k pos) (gSeq K n t) (gTp n gs) sl := by
  subst hK
  exact ⟨pg_seq hc h.p hn hst, gTp_ok h.o⟩
theorem s_asg {tg : Expr} {m : M} {t : TG} {g : GM} {sl : List Nat} (hg : GTo X X.K tg t g sl) (h : PE X e (tM X.K Z m)) (hs : swapsWithSole [tg] e pos.line X.env = pure false := by rfl) (hw : swappedStores [tg] e X.env = pure none := by rfl) (h1 : (assignEach [tg] X.env).map (·.2) = [assign tg X.env] := by rfl) : PS X (.Assign [tg] e pos) (sM X.K Z (sAsg m g)) :=
  PS.imp (ps_asg h hg.p hs hw h1) fun _ _ _ => sAsg_ok hg.o
theorem s_for {tg iter : Expr} {body : List Stmt} {src : MI} {t : TG} {g : GM} {sl : List Nat} {m : MS} (hg : GTo X X.K tg t g sl) (hi : PI X tg iter (tI X.K Z src)) (hb : PSs X body (sM X.K Z m)) (hp : PassesOwn (model X.prog X.w) X.A X.env X.xe := by exact PassesOwn.never) (hc : X.calm = true := by rfl) (hs : ∀ x, foldedSetIterable iter X.env x = pure x := by intro _; rfl) :
    PS X (.For tg iter body [] pos) (sM X.K Z (sFor src g m)) := PS.imp (ps_for hp hc hi hg.p hb hs) fun _ _ _ => sFor_ok hg.o
theorem s_while {c : Expr} {body : List Stmt} {t : MT} {m : MS} (n : Nat) (hc : PT X c (tT X.K Z t)) (hb : PSs X body (sM X.K Z m)) (hp : PassesOwn (model X.prog X.w) X.A X.env X.xe := by exact PassesOwn.never) : PS X (.While c body [] pos) (sM X.K Z (sWhile n t m)) := PS.imp (ps_while hp hc hb) fun _ _ _ => sWhile_ok
theorem m_comp {elt tg iter : Expr} {ifs : List Expr} {scope : Scope} (own : List (Str × Nat)) {src : MI} {t : TG} {g : GM} {sl : List Nat} {tt : MT} {me : M} (nd : X.N.Nodup) (hi : PI X tg iter (tI X.K Z src)) (ok : BlkOk X.N X.env.scope scope own)
    (hg : ∀ (s : Shared) (H : Hp) (C : Addr) (cl : List (Str × Addr)) (fp : List Addr), GTo (X.blk s H scope (compEnvC scope cl C X.env) fp) X.K tg t g sl)
    (ht : ∀ (s : Shared) (H : Hp) (C : Addr) (cl : List (Str × Addr)) (fp : List Addr), PTs (X.blk s H scope (compEnvC scope cl C X.env) fp) ifs (tT X.K Z tt))
    (he : ∀ (s : Shared) (H : Hp) (C : Addr) (cl : List (Str × Addr)) (fp : List Addr), PE (X.blk s H scope (compEnvC scope cl C X.env) fp) elt (tM X.K Z me)) (hsl : ∀ j ∈ sl, j ∈ own.map (·.2) := by decide) (hc : X.calm = true := by rfl) (hs : ∀ x, foldedSetIterable iter X.env x = pure x := by intro _; rfl) :
    PE X (.ListComp elt [⟨tg, iter, ifs, 0⟩] scope pos) (tM X.K Z (eComp (own.map (·.2)) src g tt me)) :=
  PE.imp (pe_lc (own := own) hc nd hi ok (fun s H C cl fp => (hg s H C cl fp).p) ht he hs) fun _ _ _ => eComp_ok (hg X.s_0 X.H_0 0 [] []).o hsl
theorem m_frz {m : M} (is : List Nat) (h : PE X e (tM X.K Z m)) : PE X e (tM X.K Z (eFrz is m)) := PE.imp h fun _ _ _ => eFrz_ok
theorem s_setLc {elt tg iter : Expr} {ifs : List Expr} {scope : Scope} (own : List (Str × Nat)) {src : MI} {t : TG} {g : GM} {sl : List Nat} {tt : MT} {me : M} {i : Nat} {py spos : Pos} (is : List Nat) (nd : X.N.Nodup) (hi : PI X tg iter (tI X.K Z src)) (ok : BlkOk X.N X.env.scope scope own)
    (hg : ∀ (s : Shared) (H : Hp) (C : Addr) (cl : List (Str × Addr)) (fp : List Addr), GTo (X.blk s H scope (compEnvC scope cl C X.env) fp) X.K tg t g sl)
    (ht : ∀ (s : Shared) (H : Hp) (C : Addr) (cl : List (Str × Addr)) (fp : List Addr), PTs (X.blk s H scope (compEnvC scope cl C X.env) fp) ifs (tT X.K Z tt))
    (he : ∀ (s : Shared) (H : Hp) (C : Addr) (cl : List (Str × Addr)) (fp : List Addr), PE (X.blk s H scope (compEnvC scope cl C X.env) fp) elt (tM X.K Z me)) (hsl : ∀ j ∈ sl, j ∈ own.map (·.2) := by decide) (hc : X.calm = true := by rfl) (hy : X.N[i]? = some x := by rfl) (hyl : X.env.scope.names.lookup x = some .local := by rfl)
    (hsw : swapsWith (.ListComp elt [⟨tg, iter, ifs, 0⟩] scope pos) (some (.Name x py)) spos.line X.env = pure true := by rfl) (hs : ∀ x, foldedSetIterable iter X.env x = pure x := by intro _; rfl) :
    PS X (.Assign [.Name x py] (.ListComp elt [⟨tg, iter, ifs, 0⟩] scope pos) spos) (sM X.K Z (sSet i (eFrz is (eComp (own.map (·.2)) src g tt me)))) :=
  PS.imp (ps_setLc (own := own) hc nd hy hyl hsw hi ok (fun s H C cl fp => (hg s H C cl fp).p) ht he hs) fun _ _ _ h => by
    have h1 := sSet_ok h
    exact eComp_ok (hg X.s_0 X.H_0 0 [] []).o hsl (eFrz_ok h1)
theorem s_par2 {x y : Str} {a b : Expr} {i j : Nat} {px py pt : Pos} {kt k2 : Nat} {pt2 : Pos} {ms : MH} (nd : X.N.Nodup) (ha : PA X [a, b] (tH X.K Z ms)) (hn : HLen 2 ms) (hi : X.N[i]? = some x := by rfl) (hj : X.N[j]? = some y := by rfl) (hij : i ≠ j := by decide) (hc : X.calm = true := by rfl)
    (hx : X.env.scope.names.lookup x = some .local := by rfl) (hy : X.env.scope.names.lookup y = some .local := by rfl) (hw : swappedStores [.Tuple [.Name x px, .Name y py] kt pt] (.Tuple [a, b] k2 pt2) X.env = pure (some [x, y]) := by rfl)
    (hs : swapsWithSole [.Tuple [.Name x px, .Name y py] kt pt] (.Tuple [a, b] k2 pt2) pos.line X.env = pure false := by rfl) : PS X (.Assign [.Tuple [.Name x px, .Name y py] kt pt] (.Tuple [a, b] k2 pt2) pos) (sM X.K Z (sPar [i, j] ms)) :=
  PS.imp (ps_par hc nd hi hj hij hx hy ha hw hs) fun _ _ _ => sPar2_ok hn
theorem s_par3 {x y z : Str} {a b c : Expr} {i j l : Nat} {px py pz pt : Pos} {kt k2 : Nat} {pt2 : Pos} {ms : MH} (nd : X.N.Nodup) (ha : PA X [a, b, c] (tH X.K Z ms)) (hn : HLen 3 ms) (hi : X.N[i]? = some x := by rfl) (hj : X.N[j]? = some y := by rfl) (hl : X.N[l]? = some z := by rfl) (hij : i ≠ j := by decide) (hil : i ≠ l := by decide) (hjl : j ≠ l := by decide) (hc : X.calm = true := by rfl)
    (hx : X.env.scope.names.lookup x = some .local := by rfl) (hy : X.env.scope.names.lookup y = some .local := by rfl) (hz : X.env.scope.names.lookup z = some .local := by rfl) (hw : swappedStores [.Tuple [.Name x px, .Name y py, .Name z pz] kt pt] (.Tuple [a, b, c] k2 pt2) X.env = pure (some [x, y, z]) := by rfl)
    (hs : swapsWithSole [.Tuple [.Name x px, .Name y py, .Name z pz] kt pt] (.Tuple [a, b, c] k2 pt2) pos.line X.env = pure false := by rfl) : PS X (.Assign [.Tuple [.Name x px, .Name y py, .Name z pz] kt pt] (.Tuple [a, b, c] k2 pt2) pos) (sM X.K Z (sPar [i, j, l] ms)) :=
  PS.imp (ps_par3 hc nd hi hj hl hij hil hjl hx hy hz ha hw hs) fun _ _ _ => sPar3_ok hn
end
end Mi
set_option Elab.async false
set_option linter.all false
set_option maxRecDepth 100000
set_option maxHeartbeats 2000000
namespace Mi
open PySem PySem.Spec PyProof.Rows L2

/-! ### the law itself is asked -/
/-- how the script's list is seen: its own object known, or one of the text's -/
structure Seen (K : PySem.W.Frag) (h : Heap) (a : Addr) (ns : List Int) (H : Hp) : Prop where
  scr : ScrAt K H a ns
  one : ∀ b u, H b = some u → b = a ∧ (∃ o, u = .frz o (.lst (ns.map V.int)) ∧ h.get? a = some o)
  far : H a ≠ none → K.lookup a = none
  hok : ∀ P w, HOk P w H h
theorem seen {K : PySem.W.Frag} {h : Heap} {a : Addr} {vs : List Value} {ns : List Int} (KX : K.In h) (ha : h.get? a = some { cls := .type "list", data := .seq vs.toArray }) (hi : IntsAre vs ns) (hl : ns.length ≤ sizeLine) : ∃ H, Seen K h a ns H := by
  have rv := vals_ints hi
  cases hk : K.lookup a with
  | some o =>
    have e := KX a o hk
    rw [ha] at e
    cases e
    refine ⟨fun _ => none, .inr ⟨_, vs.toArray, _, hk, rfl, rfl, rfl, by rw [List.size_toArray, hi.length]; exact hl, by simpa using rv⟩, fun b u z => ?_, fun z => absurd rfl z, fun P w b u z => ?_⟩
    · have z' : (none : Option HO) = some u := z
      cases z'
    · have z' : (none : Option HO) = some u := z
      cases z'
  | none =>
    let o : Obj := { cls := .type "list", data := .seq vs.toArray }
    let H : Hp := fun b => if b = a then some (.frz o (.lst (ns.map V.int))) else none
    have g : ∀ b u, H b = some u → b = a ∧ u = .frz o (.lst (ns.map V.int)) := fun b u z => by
      by_cases hb : b = a
      · have z' : H b = some (.frz o (.lst (ns.map V.int))) := if_pos hb
        rw [z'] at z; cases z
        exact ⟨hb, rfl⟩
      · have z' : H b = none := if_neg hb
        rw [z'] at z; cases z
    refine ⟨H, .inl ⟨o, if_pos rfl⟩, fun b u z => ⟨(g b u z).1, o, (g b u z).2, ha⟩, fun _ => hk, fun P w b u z => ?_⟩
    obtain ⟨rfl, rfl⟩ := g b u z
    exact ⟨ha, by rw [List.length_map]; exact hl, vs, _, rv, ha⟩
theorem ask_law {Pg : Program} {w : World} {K : PySem.W.Frag} {mg mb : Str → Option Value} {k : Nat} {fa a : Addr} {fd : FuncData} {x : Str} {g : List D → T D} {s₁ : Shared} {vs : List Value} {ns : List Int}
    (KX : K.In s₁.heap) (hns : s₁.heap.Ns mainGlobals mg) (hb : s₁.heap.Ns builtinsNs mb) (hbb : ∀ x : Str, x ≠ "__name__" → mb x = bootBuiltins x) (hlim : s₁.heap.NoLimit) (hg : s₁.gens = #[])
    (ha : s₁.heap.get? a = some { cls := .type "list", data := .seq vs.toArray }) (hi : IntsAre vs ns) (hl : ns.length ≤ sizeLine) (hr : Room k callerA)
    (F : ∀ base : Heap, K.In base → base.Ns mainGlobals mg → FnG Pg w K mg base k fa fd [x] (spM K g 1)) (hbind : ∀ (s : Shared) (u : Value), BindsTo s fd ⟨[u], []⟩ [(x, u)])
    (law : ∃ N, N ≤ LIM ∧ (g [.scr ns]).ok N fun _ d => d = .bl true) :
    codeAny (model Pg w) callerA (.call (.ref fa) ⟨[.ref a], []⟩) (fun r s' => r = .ok (.ret (.bool true)) ∧ OldK s₁.heap s'.heap ∧ s'.os = s₁.os ∧ AllBare s'.gens) s₁ := by
  obtain ⟨H, V⟩ := seen KX ha hi hl
  have away : ∀ {b : Addr} {o : Obj}, s₁.heap.get? b = some o → (b = a → ∀ vs n, o.data ≠ .seq vs n) → H b = none := fun {b o} e d => by
    cases q : H b with
    | none => rfl
    | some u =>
      obtain ⟨rfl, _⟩ := V.one b u q
      rw [ha] at e
      cases e
      exact absurd rfl (d rfl vs.toArray _)
  have nsK : ∀ {b : Addr} {m : Str → Option Value}, s₁.heap.Ns b m → (hidT s₁.heap H).Ns b m := fun {b m} ⟨o, es, ep, e, d, r⟩ => ⟨o, es, ep, hidT_get e (away e fun _ vs n z => by rw [d] at z; cases z), d, r⟩
  have inK : K.In (hidT s₁.heap H) := fun b o e => hidT_get (KX b o e) (by
    cases q : H b with
    | none => rfl
    | some u =>
      obtain ⟨rfl, _⟩ := V.one b u q
      rw [V.far (by rw [q]; simp)] at e; cases e)
  have md : Mod K mg (hidT s₁.heap H) := ⟨inK, nsK hns, ⟨mb, nsK hb, hbb⟩, let ⟨mc, h1, h2⟩ := hlim; ⟨mc, nsK h1, h2⟩⟩
  have e0 : Env0 Pg w K mg (hidT s₁.heap H) callerA [] s₁ H := ⟨rfl, md, fun b o e => of_hidT e, Nat.le_of_eq (hidT_size _ _), trivial, fun b hb => absurd (show b ∈ ([] : List Addr) from hb) (by simp), V.hok Pg w, .of_eq hg⟩
  obtain ⟨N, hN, law⟩ := law
  have sp : spM K g 1 [.ref a] H (fun v _ => v = .bl true) E0 := by
    refine ⟨N, fun _ => False, fun _ => False, [.scr ns], rfl, .cons (by simp only [RV]; exact ⟨a, rfl, V.scr⟩) .nil, ⟨fun _ f => f.elim, fun _ f => f.elim, fun _ f => f.elim, hN⟩, T.ok_mono (fun N' d e => ?_) law⟩
    subst e
    intro v H' F' P' _ _ rv
    simpa only [RV] using rv
  refine codeAny_mono ((F _ inK (nsK hns)).run callerA [] s₁ H [.ref a] [.ref a] _ ⟨hr, rfl⟩ e0 (hbind s₁ (.ref a)) (.cons rfl .nil) sp) fun r s' h => ?_
  match r, h with
  | .ok (.ret u), h =>
    obtain ⟨v, H', os, bare, un, hok', r', q⟩ := h
    have q' : v = .bl true := q
    subst q'
    obtain rfl : u = Value.bool true := r'
    refine ⟨rfl, OldK.of_keep fun b o e => ?_, os, bare⟩
    cases q : H b with
    | none => exact un.keep b o e q (fun z => absurd (show b ∈ ([] : List Addr) from z) (by simp)) (by simp)
    | some u =>
      obtain ⟨rfl, o', rfl, e1⟩ := V.one b u q
      obtain ⟨e2, _⟩ := hok' b _ (un.frzs b o' _ q)
      rw [e] at e1; cases e1
      exact e2
  | .ok .next, h => exact False.elim h
  | .ok .brk, h => exact False.elim h
  | .ok .cont, h => exact False.elim h
  | .error e, h => exact False.elim h
/-- the goal that the head leaves -/
theorem walkM {l : PySem.W.OpenLaw} {n k : Nat} {q : Program} {loose : List Str} {XP : (Str → Option Value) → Heap → Prop} {YP : World → Heap → Prop} {d : DefRec} {K : Params → PySem.W.Frag} {g : List D → T D} {x : Str}
    (hn : l.most = some n) (hn2 : n ≤ sizeLine) (hdf : d.params.defaults = []) (hr : Room k callerA) (hY : ∀ (w : World) (h : Heap), YP w h → (K w.params).In h)
    (F : ∀ (w : World) (mg : Str → Option Value) (fa : Addr) (h : Heap), (K w.params).In h → h.Ns mainGlobals mg → mg d.name = some (.ref fa) →
      ∃ fd : FuncData, (∀ (s : Shared) (u : Value), BindsTo s fd ⟨[u], []⟩ [(x, u)]) ∧ ∀ base : Heap, (K w.params).In base → base.Ns mainGlobals mg → FnG l.prog w (K w.params) mg base k fa fd [x] (spM (K w.params) g 1))
    (law : ∀ ns : List Int, ns.length ≤ n → ∃ N, N ≤ LIM ∧ (g [.scr ns]).ok N fun _ d => d = .bl true) :
    PySem.W.WalkO q loose XP YP l.row.toRowW d [] (fun f vs => PySem.call f vs) := by
  refine Att.attach_call hn hdf fun w s₀ s₁ mg mb fa o pm cd doc a vs ns G Y ho hd hcd hmg hobj hints hlen hg => ?_
  obtain ⟨fd, hb, hF⟩ := F w mg fa _ (hY w _ Y) G.T.g hmg
  exact ask_law (hY w _ Y) G.T.g G.T.b G.T.builtins G.T.nolimit hg hobj hints (Nat.le_trans hlen hn2) hr hF hb (law ns hlen)
/-! ### what stands behind the top -/
structure DefIn (K : PySem.W.Frag) (mg : Str → Option Value) (x : Str) (st : Stmt) (ps : List Str) : Prop where
  ex : ∃ f fd, Fun K x x st f fd ∧ mg x = some (.ref f) ∧ Binds K fd ps []
/-- the built-in names are nobody else's -/
structure Bl (mg : Str → Option Value) : Prop where
  len : mg "len" = none
  int : mg "int" = none
  abs : mg "abs" = none
  min : mg "min" = none
  max : mg "max" = none
  sum : mg "sum" = none
  any : mg "any" = none
  all : mg "all" = none
  list : mg "list" = none
  tuple : mg "tuple" = none
  sorted : mg "sorted" = none
  isinstance : mg "isinstance" = none
  repr : mg "repr" = none
  range : mg "range" = none
  enumerate : mg "enumerate" = none
  zip : mg "zip" = none
  set : mg "set" = none
  str : mg "str" = none
  bool : mg "bool" = none
  dict : mg "dict" = none
theorem has_pot {Pg : Program} {w : World} {K : PySem.W.Frag} {mg : Str → Option Value} {base : Heap} {k : Nat} {x : Str} {g : List D → T D} (hg : MakesPot g) (h : Has Pg w K mg base k x 2 g) : Has Pg w K mg base k x 2 potG := by
  obtain ⟨f, fd, ps, a, b, c, d, F⟩ := h
  refine ⟨f, fd, ps, a, b, c, d, fun vs H Q E q => ?_, fun A outer s H us vs Q hr e0 bd r q => F.run A outer s H us vs Q hr e0 bd r (to_pot hg q)⟩
  obtain ⟨_, _, _, _, hl, _⟩ := q
  rw [d]; exact hl
theorem t_rep {X : Cx} {Z : Fr} {k : Nat} {e e2 : Expr} {p : Pos} {f : Bool → Bool} {op : CmpOp} {r : R2} {m1 m2 : M} {p2 pos pos2 pos3 : Pos} (hop : OpR X (compareOp op) r) (hr : ∀ (x y : Str) (H : Hp) (Q : VK), Q (.bl (f (decide (x = y)))) H → r (.str x) (.str y) H Q) (hm : X.mg "repr" = none) (gr : GRoom k X.A) (h1 : PE X e (tM X.K Z m1)) (h2 : PE X e2 (tM X.K Z m2))
    (hmk : behindInMarks op (.Call (.Name "repr" p2) [e2] [] pos2) = false) (hg : Gl X "repr" := by rfl) (he : starEach [e] X.env = (false, eval e X.env) :: starEach [] X.env := by rfl) (he2 : starEach [e2] X.env = (false, eval e2 X.env) :: starEach [] X.env := by rfl) :
    PT X (.Compare (.Call (.Name "repr" p) [e] [] pos) [op] [.Call (.Name "repr" p2) [e2] [] pos2] pos3) (tT X.K Z (mTest (eRep f m1 m2))) := by
  have hc : CallR X (.builtin "repr") (rRep X.K) := call_reprM gr.g (by have := gr.r.un; have : DEEP = 40 := rfl; omega)
  exact PT.imp (pt_cmpR hop (pe_callB hc hg hm (by decide +kernel) (pa_cons h1 pa_nil he) (by decide) (by decide) he (by rfl)) (pe_callB hc hg hm (by decide +kernel) (pa_cons h2 pa_nil he2) (by decide) (by decide) he2 (by rfl)) hmk) fun _ _ _ h => eRep_ok hr (mTest_ok h)
theorem room3 {X : Cx} {k : Nat} (hr : GRoom k X.A) : X.A.units + DEEP + 3 < cLine := by
  have := hr.r.un
  have : DEEP = 40 := rfl
  omega
section
variable {X : Cx} {k : Nat}
theorem r_eq (hr : GRoom k X.A) : OpR X (compareOp .Eq) (rD X.K gEq) := op_eqM (by have := room3 hr; omega)
theorem r_ne (hr : GRoom k X.A) : OpR X (compareOp .NotEq) (rD X.K gNe) := op_neM (by have := room3 hr; omega)
theorem r_lt (hr : GRoom k X.A) : OpR X (compareOp .Lt) (rD X.K gLt) := op_ltM (by have := room3 hr; omega)
theorem r_in (hr : GRoom k X.A) : OpR X (compareOp .In) (rD X.K gIn) := op_inM (by have := room3 hr; omega)
theorem r_ni (hr : GRoom k X.A) : OpR X (compareOp .NotIn) (rD X.K gNi) := op_niM (by have := room3 hr; omega)
theorem r_sorted (hr : GRoom k X.A) : CallR X (.builtin "sorted") (rDN X.K (g1 sortedD)) := call_sortedM (room3 hr)
theorem r_min (hr : GRoom k X.A) (hc : X.calm = true) : CallR X (.builtin "min") (rDN X.K (g1 minD)) := call_minM hc (by have := room3 hr; omega)
theorem r_idx (hr : GRoom k X.A) : MtR X "list.index" (rMtM X.K gIdx) := mt_idx (by have := room3 hr; omega)
end
end Mi
set_option Elab.async false
set_option linter.all false
set_option maxRecDepth 100000
set_option maxHeartbeats 2000000
namespace Mi
open PySem PySem.Spec PyProof.Rows L2

/-! ### trees of draws, whatever is drawn -/
def T.all {α : Type} : T α → (α → Prop) → Prop
  | .ret a, Q => Q a
  | .draw k f, Q => ∀ d, d < k → (f d).all Q
  | .fail, _ => False
/-- no more than so many draws -/
def T.dle {α : Type} : T α → Nat → Prop
  | .ret _, _ => True
  | .fail, _ => True
  | .draw _ _, 0 => False
  | .draw k f, n + 1 => ∀ d, d < k → (f d).dle n
theorem T.ok_of {α : Type} {Q : α → Prop} : ∀ {t : T α} {n : Nat}, t.all Q → t.dle n → t.ok n fun _ a => Q a
  | .ret a, _, h, _ => h
  | .fail, _, h, _ => h
  | .draw k f, 0, h, g => g.elim
  | .draw k f, n + 1, h, g => fun d hd => T.ok_of (h d hd) (g d hd)
theorem T.all_mono {α : Type} {Q Q' : α → Prop} (h : ∀ a, Q a → Q' a) : ∀ {t : T α}, t.all Q → t.all Q'
  | .ret a, q => h a q
  | .draw k f, q => fun d hd => T.all_mono h (q d hd)
  | .fail, q => q
theorem T.all_bind {α β : Type} {g : α → T β} {Q : β → Prop} : ∀ {t : T α}, (t.bind g).all Q ↔ t.all fun a => (g a).all Q
  | .ret a => Iff.rfl
  | .draw k f => ⟨fun h d hd => T.all_bind.mp (h d hd), fun h d hd => T.all_bind.mpr (h d hd)⟩
  | .fail => Iff.rfl
theorem T.dle_mono {α : Type} : ∀ {t : T α} {n m : Nat}, t.dle n → n ≤ m → t.dle m
  | .ret _, _, _, _, _ => trivial
  | .fail, _, _, _, _ => trivial
  | .draw k f, 0, m, h, l => h.elim
  | .draw k f, n + 1, 0, h, l => by omega
  | .draw k f, n + 1, m + 1, h, l => fun d hd => T.dle_mono (h d hd) (by omega)
theorem T.dle_bind {α β : Type} {g : α → T β} {b : Nat} (hg : ∀ a, (g a).dle b) : ∀ {t : T α} {n : Nat}, t.dle n → (t.bind g).dle (n + b)
  | .ret a, n, _ => T.dle_mono (hg a) (by omega)
  | .fail, _, _ => trivial
  | .draw k f, 0, h => h.elim
  | .draw k f, n + 1, h => by
    show (T.draw k fun d => (f d).bind g).dle (n + 1 + b)
    rw [show n + 1 + b = (n + b) + 1 by omega]
    exact fun d hd => T.dle_bind hg (h d hd)
/-- a def that draws nothing -/
theorem mkFn_ret {n np : Nat} {body : MS} {ds : List D} {d : D} {e : Ev} (hl : ds.length = np) (h : body (startM n ds) = .ret (.rt d, e)) : mkFn n np body ds = .ret d := by
  unfold mkFn
  rw [if_pos hl, h]
  rfl
theorem mkFn_nx {n np : Nat} {body : MS} {ds : List D} {e : Ev} (hl : ds.length = np) (h : body (startM n ds) = .ret (.nx, e)) : mkFn n np body ds = .ret .non := by
  unfold mkFn
  rw [if_pos hl, h]
  rfl
theorem mkFn_all {n np : Nat} {body : MS} {ds : List D} {Q : D → Prop} (hl : ds.length = np) (h : (body (startM n ds)).all fun r => (match r.1 with | .rt d => (T.ret d : T D) | .nx => .ret .non | _ => .fail).all Q) : (mkFn n np body ds).all Q := by
  unfold mkFn
  rw [if_pos hl]
  exact T.all_bind.mpr h

/-! ### the terms, step by step -/
@[simp] theorem ite_bind {α β : Type} {p : Prop} [Decidable p] (a b : T α) (f : α → T β) : (if p then a else b).bind f = if p then a.bind f else b.bind f := by split <;> rfl
@[simp] theorem draw_bind {α β : Type} (k : Nat) (f : Nat → T α) (g : α → T β) : (T.draw k f).bind g = T.draw k fun d => (f d).bind g := rfl
section
variable {env e : Ev} {m m1 m2 m3 : M} {ms : MH} {t u : MT} {s s' : MS} {d : D} {b c : Bool} {i : Nat}
@[simp] theorem eVar_e : eVar i env = match env[i]? with | some (some (false, d)) => .ret (.val d, env) | some (some (true, _)) => .ret (.slot i, env) | _ => .fail := rfl
@[simp] theorem eC_e : eC d env = .ret (.val d, env) := rfl
@[simp] theorem eOp_e {g : D → D → Option Hd} : eOp g m1 m2 env = (m1 env).bind fun r1 => (m2 r1.2).bind fun r2 => f2 g r2.2 r1.1 r2.1 := rfl
@[simp] theorem eUn_e {g : D → Option Hd} : eUn g m env = (m env).bind fun r1 => f1 g r1.2 r1.1 := rfl
def okH (env : Ev) : Option Hd → T (Hd × Ev)
  | some h => .ret (h, env)
  | none => .fail
@[simp] theorem okH_s {h : Hd} : okH env (some h) = .ret (h, env) := rfl
@[simp] theorem okH_ite {p : Prop} [Decidable p] {a b : Option Hd} : okH env (if p then a else b) = if p then okH env a else okH env b := by split <;> rfl
@[simp] theorem f2_e {g : D → D → Option Hd} {h1 h2 : Hd} : f2 g env h1 h2 = match rs env h1, rs env h2 with | some d1, some d2 => okH env (g d1 d2) | _, _ => .fail := by
  unfold f2 okH
  cases rs env h1 <;> cases rs env h2 <;> rfl
@[simp] theorem f1_e {g : D → Option Hd} {h1 : Hd} : f1 g env h1 = match rs env h1 with | some d1 => okH env (g d1) | none => .fail := by
  unfold f1 okH
  cases rs env h1 <;> rfl
@[simp] theorem rs_val : rs env (.val d) = some d := rfl
@[simp] theorem rs_tmp : rs env (.tmp d) = some d := rfl
@[simp] theorem rs_slot : rs env (.slot i) = match env[i]? with | some (some (_, d)) => some d | _ => none := rfl
@[simp] theorem fz_val : fz env (.val d) = some (d, env) := rfl
@[simp] theorem fz_tmp : fz env (.tmp d) = some (d, env) := rfl
@[simp] theorem fz_slot : fz env (.slot i) = match env[i]? with | some (some (_, d)) => some (d, env.set i (some (false, d))) | _ => none := rfl
@[simp] theorem rss_nil : rss env [] = some [] := rfl
@[simp] theorem rss_cons {h : Hd} {hs : List Hd} : rss env (h :: hs) = match rs env h, rss env hs with | some d, some ds => some (d :: ds) | _, _ => none := rfl
@[simp] theorem fzs_nil : fzs env [] = some ([], env) := rfl
@[simp] theorem fzs_cons {h : Hd} {hs : List Hd} : fzs env (h :: hs) = match fz env h with | some (d, e') => (match fzs e' hs with | some (ds, e'') => some (d :: ds, e'') | none => none) | none => none := rfl
@[simp] theorem hNil_e : hNil env = .ret ([], env) := rfl
@[simp] theorem hCons_e : hCons m ms env = (m env).bind fun r1 => (ms r1.2).bind fun r2 => .ret (r1.1 :: r2.1, r2.2) := rfl
def rssK (env : Ev) (f : List D → T (Hd × Ev)) : Option (List D) → T (Hd × Ev)
  | some ds => f ds
  | none => .fail
@[simp] theorem rssK_s {f : List D → T (Hd × Ev)} {ds : List D} : rssK env f (some ds) = f ds := rfl
@[simp] theorem eCall_e {g : List D → Option Hd} : eCall ms g env = (ms env).bind fun r => rssK r.2 (fun ds => okH r.2 (g ds)) (rss r.2 r.1) := by
  unfold eCall
  refine congrArg _ (funext fun r => ?_)
  cases rss r.2 r.1 with
  | none => rfl
  | some ds => show (match g ds with | some h => _ | none => _) = okH r.2 (g ds); cases g ds <;> rfl
def fzK (f : List D → Ev → T (Hd × Ev)) : Option (List D × Ev) → T (Hd × Ev)
  | some (ds, e) => f ds e
  | none => .fail
@[simp] theorem fzK_s {f : List D → Ev → T (Hd × Ev)} {ds : List D} : fzK f (some (ds, e)) = f ds e := rfl
@[simp] theorem eTup_e : eTup ms env = (ms env).bind fun r => fzK (fun ds e => .ret (.val (.tup ds), e)) (fzs r.2 r.1) := by
  unfold eTup; refine congrArg _ (funext fun r => ?_); cases fzs r.2 r.1 <;> rfl
@[simp] theorem eLst_e : eLst ms env = (ms env).bind fun r => fzK (fun ds e => .ret (.tmp (.lst ds), e)) (fzs r.2 r.1) := by
  unfold eLst; refine congrArg _ (funext fun r => ?_); cases fzs r.2 r.1 <;> rfl
@[simp] theorem eDef_e {g : List D → T D} : eDef g ms env = (ms env).bind fun r => fzK (fun ds e => (g ds).bind fun d => .ret (.val d, if lf d = true then r.2 else e)) (fzs r.2 r.1) := by
  unfold eDef; refine congrArg _ (funext fun r => ?_); cases fzs r.2 r.1 <;> rfl
def blK {α : Type} (f : Bool → Ev → T α) : Hd × Ev → T α
  | (.val (.bl b), e) => f b e
  | _ => .fail
@[simp] theorem blK_b {α : Type} {f : Bool → Ev → T α} : blK f (.val (.bl b), e) = f b e := rfl
@[simp] theorem mTest_e : mTest m env = (m env).bind (blK fun b e => .ret (b, e)) := by
  unfold mTest; refine congrArg _ (funext fun r => ?_); obtain ⟨h, e⟩ := r; cases h with | val d => cases d <;> rfl | slot i => rfl | tmp d => rfl
@[simp] theorem eAnd_e : eAnd m1 m2 env = (m1 env).bind (blK fun b e => if b = true then m2 e else .ret (.val (.bl false), e)) := by
  unfold eAnd; refine congrArg _ (funext fun r => ?_); obtain ⟨h, e⟩ := r; cases h with | val d => (cases d with | bl b => cases b <;> rfl | _ => rfl) | slot i => rfl | tmp d => rfl
@[simp] theorem eOr_e : eOr m1 m2 env = (m1 env).bind (blK fun b e => if b = true then .ret (.val (.bl true), e) else m2 e) := by
  unfold eOr; refine congrArg _ (funext fun r => ?_); obtain ⟨h, e⟩ := r; cases h with | val d => (cases d with | bl b => cases b <;> rfl | _ => rfl) | slot i => rfl | tmp d => rfl
@[simp] theorem eNotV_e : eNotV m env = (m env).bind (blK fun b e => .ret (.val (.bl (!b)), e)) := by
  unfold eNotV; refine congrArg _ (funext fun r => ?_); obtain ⟨h, e⟩ := r; cases h with | val d => cases d <;> rfl | slot i => rfl | tmp d => rfl
@[simp] theorem mAnd_e : mAnd t u env = (t env).bind fun r => if r.1 = true then u r.2 else .ret (false, r.2) := by
  unfold mAnd; refine congrArg _ (funext fun r => ?_); obtain ⟨b, e⟩ := r; cases b <;> rfl
@[simp] theorem mOr_e : mOr t u env = (t env).bind fun r => if r.1 = true then .ret (true, r.2) else u r.2 := by
  unfold mOr; refine congrArg _ (funext fun r => ?_); obtain ⟨b, e⟩ := r; cases b <;> rfl
@[simp] theorem mNot_e : mNot t env = (t env).bind fun r => .ret (!r.1, r.2) := rfl
@[simp] theorem mYes_e : mYes env = .ret (true, env) := rfl
@[simp] theorem eIf_e : eIf t m1 m2 env = (t env).bind fun r => if r.1 = true then m1 r.2 else m2 r.2 := by
  unfold eIf; refine congrArg _ (funext fun r => ?_); obtain ⟨b, e⟩ := r; cases b <;> rfl
@[simp] theorem sIf_e : sIf t s s' env = (t env).bind fun r => if r.1 = true then s r.2 else s' r.2 := by
  unfold sIf; refine congrArg _ (funext fun r => ?_); obtain ⟨b, e⟩ := r; cases b <;> rfl
@[simp] theorem eIsi_e {T' : String} : eIsi T' m env = (m env).bind fun r => match rs r.2 r.1 with | some d => okH r.2 ((gIsi T' d).map fun b => .val (.bl b)) | none => .fail := by
  unfold eIsi; refine congrArg _ (funext fun r => ?_)
  cases rs r.2 r.1 with
  | none => rfl
  | some d => dsimp only; cases gIsi T' d <;> rfl
@[simp] theorem gIsi_tuple {l : List D} : gIsi "tuple" (.tup l) = some true := by simp [gIsi, tyD, isK]
@[simp] theorem gIsi_int {j : Int} : gIsi "int" (.int j) = some true := by simp [gIsi, tyD, isK]
@[simp] theorem gIsi_intb : gIsi "int" (.bl b) = some true := by simp [gIsi, tyD, isK]
@[simp] theorem gIsi_bool {j : Int} : gIsi "bool" (.int j) = some false := by simp [gIsi, tyD, isK]
@[simp] theorem gIsi_boolb : gIsi "bool" (.bl b) = some true := by simp [gIsi, tyD, isK]
def chK (f : Ev → T (Hd × Ev)) (e : Ev) : Option Hd → T (Hd × Ev)
  | some (.val (.bl b)) => if b = true then f e else .ret (.val (.bl false), e)
  | _ => .fail
@[simp] theorem chK_b {f : Ev → T (Hd × Ev)} : chK f e (some (.val (.bl b))) = if b = true then f e else .ret (.val (.bl false), e) := rfl
@[simp] theorem eChain_e {g g' : D → D → Option Hd} : eChain g g' m1 m2 m3 env = (m1 env).bind fun r1 => (m2 r1.2).bind fun r2 => match rs r2.2 r1.1, rs r2.2 r2.1 with
    | some d1, some d2 => chK (fun e => (m3 e).bind fun r3 => match rs r3.2 r2.1, rs r3.2 r3.1 with | some d2, some d3 => okH r3.2 (g' d2 d3) | _, _ => .fail) r2.2 (g d1 d2)
    | _, _ => .fail := by
  unfold eChain; refine congrArg _ (funext fun r1 => congrArg _ (funext fun r2 => ?_))
  cases rs r2.2 r1.1 with
  | none => rfl
  | some d1 =>
    cases rs r2.2 r2.1 with
    | none => rfl
    | some d2 =>
      dsimp only
      cases g d1 d2 with
      | none => rfl
      | some h =>
        cases h with
        | val d =>
          cases d with
          | bl b =>
            cases b with
            | true =>
              rw [chK_b, if_pos rfl]
              refine congrArg (T.bind (m3 r2.2)) (funext fun r3 => ?_)
              cases rs r3.2 r2.1 with
              | none => rfl
              | some a =>
                cases rs r3.2 r3.1 with
                | none => rfl
                | some b' => dsimp only; cases g' a b' <;> rfl
            | false => rfl
          | _ => rfl
        | _ => rfl
@[simp] theorem gI_e {g : Int → Int → Option D} {x y : Int} : gI g (.int x) (.int y) = (g x y).map .val := rfl
@[simp] theorem iSub_e {x y : Int} : iSub x y = some (.int (x - y)) := rfl
@[simp] theorem iLe_e {x y : Int} : iLe x y = some (.bl (decide (x ≤ y))) := rfl
@[simp] theorem iGt_e {x y : Int} : iGt x y = some (.bl (decide (y < x))) := rfl
@[simp] theorem iGe_e {x y : Int} : iGe x y = some (.bl (decide (y ≤ x))) := rfl
@[simp] theorem gLt_int {x y : Int} : gLt (.int x) (.int y) = some (.val (.bl (decide (x < y)))) := rfl
@[simp] theorem gEq_int {x y : Int} : gEq (.int x) (.int y) = some (.val (.bl (x == y))) := rfl
@[simp] theorem gNe_int {x y : Int} : gNe (.int x) (.int y) = some (.val (.bl (!(x == y)))) := rfl
@[simp] theorem gAdd_int {x y : Int} : gAdd (.int x) (.int y) = some (.val (.int (x + y))) := rfl
@[simp] theorem gAdd_tup {l l' : List D} : gAdd (.tup l) (.tup l') = if l.length + l'.length ≤ 16777216 then some (.val (.tup (l ++ l'))) else none := rfl
@[simp] theorem g1_e {g : D → Option Hd} : g1 g [d] = g d := rfl
@[simp] theorem gI2_e {g : Int → Int → Int} {x y : Int} : gI2 g [.int x, .int y] = some (.val (.int (g x y))) := rfl
@[simp] theorem lenD_tup {l : List D} : lenD (.tup l) = some (.val (.int l.length)) := rfl
@[simp] theorem lenD_lst {l : List D} : lenD (.lst l) = some (.val (.int l.length)) := rfl
@[simp] theorem lenD_scr {l : List Int} : lenD (.scr l) = some (.val (.int l.length)) := rfl
@[simp] theorem intD_int {x : Int} : intD (.int x) = some (.val (.int x)) := rfl
@[simp] theorem intD_bl : intD (.bl b) = some (.val (.int (if b then 1 else 0))) := rfl
@[simp] theorem listD_lst {l : List D} : listD (.lst l) = some (.tmp (.lst l)) := rfl
@[simp] theorem listD_tup {l : List D} : listD (.tup l) = some (.tmp (.lst l)) := rfl
@[simp] theorem tupleD_lst {l : List D} : tupleD (.lst l) = some (.val (.tup l)) := rfl
@[simp] theorem tupleD_tup {l : List D} : tupleD (.tup l) = some (.val (.tup l)) := rfl
@[simp] theorem sumD_ints {ns : List Int} : sumD (.lst (ns.map .int)) = some (.val (.int ns.sum)) := by simp [sumD, seqD]
@[simp] theorem sumD_intt {ns : List Int} : sumD (.tup (ns.map .int)) = some (.val (.int ns.sum)) := by simp [sumD, seqD]
@[simp] theorem allD_bls {ns : List Bool} : allD (.lst (ns.map .bl)) = some (.val (.bl (ns.all id))) := by simp [allD, seqD]
@[simp] theorem anyD_bls {ns : List Bool} : anyD (.lst (ns.map .bl)) = some (.val (.bl (ns.any id))) := by simp [anyD, seqD]
@[simp] theorem truTrue : isN .non = some true := rfl
@[simp] theorem sNext_e : sNext env = .ret (.nx, env) := rfl
@[simp] theorem sRetN_e : sRetN env = .ret (.rt .non, env) := rfl
@[simp] theorem sNever_e : sNever env = .fail := rfl
def sqK (s' : MS) : Fl × Ev → T (Fl × Ev)
  | (.nx, e) => s' e
  | r => .ret r
@[simp] theorem sqK_nx : sqK s' (.nx, e) = s' e := rfl
@[simp] theorem sqK_rt : sqK s' (.rt d, e) = .ret (.rt d, e) := rfl
@[simp] theorem sqK_bk : sqK s' (.bk, e) = .ret (.bk, e) := rfl
@[simp] theorem sqK_ct : sqK s' (.ct, e) = .ret (.ct, e) := rfl
@[simp] theorem sSeq_e : sSeq s s' env = (s env).bind (sqK s') := by
  unfold sSeq; refine congrArg _ (funext fun r => ?_); obtain ⟨f, e⟩ := r; cases f <;> rfl
def fz1K {α : Type} (f : D → Ev → T α) : Option (D × Ev) → T α
  | some (d, e) => f d e
  | none => .fail
@[simp] theorem fz1K_s {α : Type} {f : D → Ev → T α} : fz1K f (some (d, e)) = f d e := rfl
@[simp] theorem sRet_e : sRet m env = (m env).bind fun r => fz1K (fun d e => .ret (.rt d, e)) (fz r.2 r.1) := by
  unfold sRet; refine congrArg _ (funext fun r => ?_); cases fz r.2 r.1 <;> rfl
@[simp] theorem sDrop_e : sDrop m env = (m env).bind fun r => .ret (.nx, r.2) := rfl
def evK (f : Ev → T (Fl × Ev)) : Option Ev → T (Fl × Ev)
  | some e => f e
  | none => .fail
@[simp] theorem evK_s {f : Ev → T (Fl × Ev)} : evK f (some e) = f e := rfl
@[simp] theorem sSet_e : sSet i m env = (m env).bind fun r => evK (fun e => .ret (.nx, e)) (put i r) := by
  unfold sSet; refine congrArg _ (funext fun r => ?_); cases put i r <;> rfl
@[simp] theorem put_e {r : Hd × Ev} : put i r = if i < r.2.length then match r.1 with | .val d => some (r.2.set i (some (false, d))) | .tmp d => some (r.2.set i (some (true, d))) | .slot j => match fz r.2 (.slot j) with | some (d, env') => some (env'.set i (some (false, d))) | none => none else none := rfl
@[simp] theorem sAsg_e {g : GM} : sAsg m g env = (m env).bind fun r => fz1K (fun d e => evK (fun e => .ret (.nx, e)) (g d e)) (fz r.2 r.1) := by
  unfold sAsg; refine congrArg _ (funext fun r => ?_)
  cases fz r.2 r.1 with
  | none => rfl
  | some z => obtain ⟨d, e⟩ := z; show (match g d e with | some e => _ | none => _) = evK _ (g d e); cases g d e <;> rfl
@[simp] theorem gNm_e : gNm i d env = if i < env.length then some (env.set i (some (false, d))) else none := rfl
@[simp] theorem gsNil_e : gsNil [] env = some env := rfl
@[simp] theorem gsCons_e {g : GM} {gs : List D → Ev → Option Ev} {ds : List D} : gsCons g gs (d :: ds) env = (g d env).bind (gs ds) := rfl
@[simp] theorem sFor_e {src : MI} {g : GM} : sFor src g s env = (src env).bind fun r => forL g s r.1 r.2 := rfl
@[simp] theorem iSeq_e : iSeq m env = (m env).bind fun r => fz1K (fun d e => match walkD d with | some l => .ret (l, e) | none => .fail) (fz r.2 r.1) := by
  unfold iSeq; refine congrArg _ (funext fun r => ?_); cases fz r.2 r.1 <;> rfl
@[simp] theorem walk_tup {l : List D} : walkD (.tup l) = some l := rfl
@[simp] theorem walk_lst {l : List D} : walkD (.lst l) = some l := rfl
@[simp] theorem walk_scr {l : List Int} : walkD (.scr l) = some (l.map .int) := rfl
@[simp] theorem eFrz_e {is : List Nat} : eFrz is m env = m (frzAll is env) := rfl
end
end Mi
set_option Elab.async false
set_option linter.all false
set_option maxRecDepth 100000
set_option maxHeartbeats 2000000
namespace Mi
open PySem PySem.Spec PyProof.Rows L2

/-! ### comprehensions -/
def stepE (g : GM) (tt : MT) (elt : M) (vs : List Nat) (d : D) (env : Ev) : T (Option D × Ev) := evK' (g d env)
where
  evK' : Option Ev → T (Option D × Ev)
    | some env1 => (tt env1).bind fun rb => if rb.1 = true then (elt rb.2).bind fun re => fz1K (fun x e => .ret (some x, wipeE e vs)) (fz re.2 re.1) else .ret (none, wipeE rb.2 vs)
    | none => .fail
@[simp] theorem stepE_e {g : GM} {tt : MT} {elt : M} {vs : List Nat} {d : D} {env : Ev} : stepE g tt elt vs d env = stepE.evK' tt elt vs (g d env) := rfl
@[simp] theorem stepE_s {tt : MT} {elt : M} {vs : List Nat} {env1 : Ev} : stepE.evK' tt elt vs (some env1) = (tt env1).bind fun rb => if rb.1 = true then (elt rb.2).bind fun re => fz1K (fun x e => .ret (some x, wipeE e vs)) (fz re.2 re.1) else .ret (none, wipeE rb.2 vs) := rfl
theorem compL_cons {g : GM} {tt : MT} {elt : M} {vs : List Nat} {d : D} {ds acc : List D} {env : Ev} : compL g tt elt vs (d :: ds) acc env = (stepE g tt elt vs d env).bind fun r => compL g tt elt vs ds (acc ++ r.1.toList) r.2 := by
  rw [stepE_e]
  simp only [compL]
  cases g d env with
  | none => rfl
  | some env1 =>
    simp only [stepE_s, bind_assoc]
    refine congrArg (T.bind (tt env1)) (funext fun rb => ?_)
    obtain ⟨b, e⟩ := rb
    cases b with
    | true =>
      simp only [if_true, bind_assoc]
      refine congrArg (T.bind (elt e)) (funext fun re => ?_)
      cases fz re.2 re.1 with
      | none => rfl
      | some z => rfl
    | false => simp
where
  bind_assoc {α β γ : Type} {t : T α} {f : α → T β} {g : β → T γ} : (t.bind f).bind g = t.bind fun a => (f a).bind g := by
    induction t with
    | ret a => rfl
    | fail => rfl
    | draw k f ih => exact congrArg (T.draw k) (funext fun d => ih d)
theorem compL_map {α : Type} {g : GM} {tt : MT} {elt : M} {vs : List Nat} {env : Ev} (c : α → D) (p : α → Bool) (f : α → D) : ∀ (xs : List α) (acc : List D), (∀ x ∈ xs, stepE g tt elt vs (c x) env = .ret (if p x = true then some (f x) else none, env)) →
    compL g tt elt vs (xs.map c) acc env = .ret (acc ++ (xs.filter p).map f, env)
  | [], acc, _ => by simp [compL]
  | x :: xs, acc, h => by
    rw [List.map_cons, compL_cons, h x List.mem_cons_self]
    simp only [T.ret_bind]
    rw [compL_map c p f xs _ fun y m => h y (List.mem_cons_of_mem _ m)]
    cases hp : p x <;> simp [hp]
/-- a comprehension that draws nothing and leaves all names as they are -/
theorem comp_map {α : Type} {vs : List Nat} {src : MI} {g : GM} {tt : MT} {elt : M} {env env1 : Ev} (xs : List α) (c : α → D) (p : α → Bool) (f : α → D) (hs : src env = .ret (xs.map c, env1)) (hv : vs.all (free1 env1) = true)
    (hb : ∀ x ∈ xs, stepE g tt elt vs (c x) (wipeE env1 vs) = .ret (if p x = true then some (f x) else none, wipeE env1 vs)) : eComp vs src g tt elt env = .ret (.tmp (.lst ((xs.filter p).map f)), backE (wipeE env1 vs) env1 vs) := by
  unfold eComp
  rw [hs]
  simp only [T.ret_bind]
  rw [if_pos hv, compL_map c p f xs [] hb]
  rfl
theorem comp_each {α : Type} {vs : List Nat} {src : MI} {g : GM} {tt : MT} {elt : M} {env env1 : Ev} (xs : List α) (c : α → D) (f : α → D) (hs : src env = .ret (xs.map c, env1)) (hv : vs.all (free1 env1) = true)
    (hb : ∀ x ∈ xs, stepE g tt elt vs (c x) (wipeE env1 vs) = .ret (some (f x), wipeE env1 vs)) : eComp vs src g tt elt env = .ret (.tmp (.lst (xs.map f)), backE (wipeE env1 vs) env1 vs) := by
  rw [comp_map xs c (fun _ => true) f hs hv (fun x m => by simpa using hb x m), List.filter_eq_self.mpr (fun _ _ => rfl)]
theorem cut_from (l : List D) : cutD l (some 1) none = l.tail := by
  rw [← List.drop_one]
  unfold cutD
  rw [show HT.sIx l.length 0 (some 1) = min 1 l.length from HT.sIx_nat l.length 0 1, HT.sIx_none]
  cases l with
  | nil => rfl
  | cons x l => simp
theorem cut_to (l : List D) (k : Nat) : cutD l none (some (k : Int)) = l.take k := by
  unfold cutD
  rw [HT.sIx_none, HT.sIx_nat]
  simp [List.take_eq_take_iff]
@[simp] theorem eSl_e {m : M} {lo hi : MO} {env : Ev} : eSl m lo hi env = (m env).bind fun r1 => (lo r1.2).bind fun r2 => (hi r2.2).bind fun r3 => match rs r3.2 r1.1 with | some d => okH r3.2 (gSl d r2.1 r3.1) | none => .fail := by
  unfold eSl
  refine congrArg _ (funext fun r1 => congrArg _ (funext fun r2 => congrArg _ (funext fun r3 => ?_)))
  cases rs r3.2 r1.1 with
  | none => rfl
  | some d => dsimp only; cases gSl d r2.1 r3.1 <;> rfl
@[simp] theorem oNone_e {env : Ev} : oNone env = .ret (none, env) := rfl
@[simp] theorem oSome_e {m : M} {env : Ev} : oSome m env = (m env).bind fun r => match r.1 with | .val (.int i) => .ret (some i, r.2) | _ => .fail := rfl
@[simp] theorem gSl_tup {l : List D} {a b : Option Int} : gSl (.tup l) a b = some (.val (.tup (cutD l a b))) := rfl
@[simp] theorem gSl_lst {l : List D} {a b : Option Int} : gSl (.lst l) a b = some (.tmp (.lst (cutD l a b))) := rfl
theorem zipL_map {α β : Type} (c : α → D) (c' : β → D) : ∀ (xs : List α) (ys : List β), zipL (xs.map c) (ys.map c') = (xs.zip ys).map fun z => .tup [c z.1, c' z.2]
  | [], ys => by simp [zipL]
  | x :: xs, [] => by simp [zipL]
  | x :: xs, y :: ys => by simp [zipL, zipL_map c c' xs ys]
@[simp] theorem iZipM_e {ms : MH} {env : Ev} : iZipM ms env = (ms env).bind fun r => match fzs r.2 r.1 with | some ([d, d'], env') => (match walkD d, walkD d' with | some l, some l' => .ret (zipL l l', env') | _, _ => .fail) | _ => .fail := rfl
@[simp] theorem iEnumM_e {ms : MH} {env : Ev} : iEnumM ms env = (ms env).bind fun r => match fzs r.2 r.1 with | some ([d], env') => (match walkD d with | some l => .ret (enumL 0 l, env') | none => .fail) | _ => .fail := rfl
def rngK (env : Ev) : Option (Int × Int) → T (List D × Ev)
  | some z => .ret (rgD z.1 z.2, env)
  | none => .fail
@[simp] theorem rngK_s {env : Ev} {a b : Int} : rngK env (some (a, b)) = .ret (rgD a b, env) := rfl
def rssI (f : List D → T (List D × Ev)) : Option (List D) → T (List D × Ev)
  | some ds => f ds
  | none => .fail
@[simp] theorem rssI_s {f : List D → T (List D × Ev)} {ds : List D} : rssI f (some ds) = f ds := rfl
@[simp] theorem iRng_e {ms : MH} {env : Ev} : iRng ms env = (ms env).bind fun r => rssI (fun ds => rngK r.2 (rg2 ds)) (rss r.2 r.1) := by
  unfold iRng
  refine congrArg _ (funext fun r => ?_)
  cases rss r.2 r.1 with
  | none => rfl
  | some ds => rw [rssI_s]; dsimp only; cases rg2 ds with | none => rfl | some z => rfl
theorem rg2_nat {n : Nat} (h : n ≤ 16777216) : rg2 [.int n] = some (0, (n : Int)) := by
  have : rgOk 0 (n : Int) = true := by unfold rgOk; exact decide_eq_true (by omega)
  simp [rg2, this]
theorem rgD_nat (n : Nat) : rgD 0 (n : Int) = (List.range n).map fun i : Nat => D.int i := by
  unfold rgD; simp
theorem enumL_zip : ∀ (k : Nat) (l : List D), enumL k l = (l.zipIdx k).map fun z => .tup [.int z.2, z.1]
  | _, [] => rfl
  | k, d :: ds => by simp [enumL, enumL_zip (k + 1) ds]
@[simp] theorem gTp_tup {n : Nat} {gs : List D → Ev → Option Ev} {l : List D} {env : Ev} : gTp n gs (.tup l) env = if l.length = n then gs l env else none := by
  unfold gTp
  rfl

theorem iRng1_of {m : M} {env env' : Ev} {n : Nat} (h : m env = .ret (.val (.int n), env')) (hn : n ≤ 16777216) : iRng (hCons m hNil) env = .ret ((List.range n).map fun i : Nat => D.int i, env') := by
  rw [iRng_e, hCons_e, h, T.ret_bind, hNil_e, T.ret_bind, T.ret_bind, rss_cons, rss_nil, rs_val]
  dsimp only
  rw [rssI_s, rg2_nat hn, rngK_s, rgD_nat]
end Mi
set_option Elab.async false
set_option linter.all false
set_option maxRecDepth 100000
set_option maxHeartbeats 2000000
namespace Mi
open PySem PySem.Spec PyProof.Rows L2

/-! ### rows of ints -/
abbrev row (l : List Int) : D := .tup (l.map .int)
theorem eqD_int {i j : Int} : ∀ n : Nat, 0 < n → eqDn n (.int i) (.int j) = some (i == j)
  | n + 1, _ => rfl
theorem ltD_int {i j : Int} : ∀ n : Nat, 0 < n → ltDn n (.int i) (.int j) = some (decide (i < j))
  | n + 1, _ => rfl
theorem eqL_ints {n : Nat} (h : 0 < n) : ∀ a b : List Int, eqL (eqDn n) (a.map .int) (b.map .int) = some (decide (a = b))
  | [], [] => rfl
  | [], _ :: _ => rfl
  | _ :: _, [] => rfl
  | x :: a, y :: b => by
    simp only [List.map_cons, eqL, eqD_int n h, eqL_ints h a b]
    by_cases e : x = y
    · subst e; simp
    · simp [e]
theorem ltL_ints {n : Nat} (h : 0 < n) : ∀ a b : List Int, ∃ c, ltL (eqDn n) (ltDn n) (a.map .int) (b.map .int) = some c
  | [], [] => ⟨_, rfl⟩
  | [], _ :: _ => ⟨_, rfl⟩
  | _ :: _, [] => ⟨_, rfl⟩
  | x :: a, y :: b => by
    obtain ⟨c, hc⟩ := ltL_ints h a b
    simp only [List.map_cons, ltL, eqD_int n h, hc, ltD_int n h]
    cases hxy : (x == y) with
    | true => exact ⟨c, rfl⟩
    | false => exact ⟨decide (x < y), rfl⟩
theorem eqRow (a b : List Int) : eqDn DEEP (row a) (row b) = some (decide (a = b)) := by
  show eqL (eqDn 39) _ _ = _
  exact eqL_ints (by decide) a b
theorem ltRow (a b : List Int) : ltDn DEEP (row a) (row b) = some (rowB (enc (row a)) (enc (row b))) := by
  obtain ⟨c, hc⟩ := ltL_ints (n := 39) (by decide) a b
  have : ltDn DEEP (row a) (row b) = some c := hc
  rw [this, ltDn_row this]
def rowLe (a b : List Int) : Bool := !rowB (enc (row b)) (enc (row a))
def srt (L : List (List Int)) : List (List Int) := L.mergeSort rowLe
theorem plInts : ∀ l : List Int, plDs (l.map .int) = true
  | [] => rfl
  | x :: l => by simp [plDs, plD, plInts l]
theorem plRows : ∀ L : List (List Int), plDs (L.map row) = true
  | [] => rfl
  | x :: L => by simp [plDs, plD, plInts x, plRows L]
theorem sortOk_rows (L : List (List Int)) : sortOk (L.map row) = true := by
  unfold sortOk
  rw [plRows]
  simp only [Bool.true_and, Bool.and_eq_true, Bool.or_eq_true]
  refine ⟨.inr ?_, .inr ?_⟩
  · rw [List.all_eq_true]
    intro x m
    obtain ⟨a, _, rfl⟩ := List.mem_map.mp m
    rfl
  · rw [List.all_eq_true]
    intro x m
    obtain ⟨a, _, rfl⟩ := List.mem_map.mp m
    rw [List.all_eq_true]
    intro y m
    obtain ⟨b, _, rfl⟩ := List.mem_map.mp m
    rw [ltRow]; rfl
theorem sortL_rows (L : List (List Int)) : sortL (L.map row) = (srt L).map row := by
  unfold sortL srt
  exact (PySem.W.sort_maps row fun a _ b _ => rfl).symm
@[simp] theorem sorted_rows (L : List (List Int)) : sortedD (.lst (L.map row)) = some (.tmp (.lst ((srt L).map row))) := by
  show (if sortOk (L.map row) = true then some (Hd.tmp (.lst (sortL (L.map row)))) else none) = _
  rw [if_pos (sortOk_rows L), sortL_rows]
theorem sortOk_ints (l : List Int) : sortOk (l.map .int) = true := by
  unfold sortOk
  rw [plInts]
  simp only [Bool.true_and, Bool.and_eq_true, Bool.or_eq_true]
  refine ⟨.inl (.inl ?_), .inr ?_⟩
  · rw [List.all_eq_true]
    intro x m
    obtain ⟨a, _, rfl⟩ := List.mem_map.mp m
    rfl
  · rw [List.all_eq_true]
    intro x m
    obtain ⟨a, _, rfl⟩ := List.mem_map.mp m
    rw [List.all_eq_true]
    intro y m
    obtain ⟨b, _, rfl⟩ := List.mem_map.mp m
    rw [ltD_int _ (by decide)]; rfl
def isrt (l : List Int) : List Int := l.mergeSort fun a b => decide (a ≤ b)
@[simp] theorem sorted_ints (l : List Int) : sortedD (.lst (l.map .int)) = some (.tmp (.lst ((isrt l).map .int))) := by
  show (if sortOk (l.map .int) = true then some (Hd.tmp (.lst (sortL (l.map .int)))) else none) = _
  rw [if_pos (sortOk_ints l)]
  have : sortL (l.map .int) = (isrt l).map .int := by
    unfold sortL isrt
    refine (PySem.W.sort_maps D.int fun a _ b _ => ?_).symm
    show decide (a ≤ b) = !rowB [b] [a]
    have : rowB [b] [a] = decide (b < a) := by
      show (if b = a then false else decide (b < a)) = _
      by_cases e : b = a
      · subst e; simp
      · rw [if_neg e]
    rw [this]
    by_cases e : a ≤ b
    · rw [decide_eq_true e, decide_eq_false (by omega)]; rfl
    · rw [decide_eq_false e, decide_eq_true (by omega)]; rfl
  rw [this]
/-- the codes tell the rows apart -/
theorem encs_inj : ∀ {a b : List Int}, encs (a.map .int) = encs (b.map .int) → a = b
  | [], [], _ => rfl
  | [], y :: b, h => by simp [encs] at h
  | x :: a, [], h => by simp [encs] at h
  | x :: a, y :: b, h => by
    simp only [List.map_cons, encs, enc, List.cons_append, List.nil_append, List.cons.injEq, true_and] at h
    rw [h.1, encs_inj h.2]
theorem rowB_total : ∀ p q, rowB p q = false → rowB q p = false → p = q
  | [], [], _, _ => rfl
  | [], _ :: _, h, _ => by cases h
  | _ :: _, [], _, h => by cases h
  | x :: p, y :: q, h, h' => by
    simp only [rowB] at h h'
    by_cases e : x = y
    · subst e
      rw [if_pos rfl] at h h'
      rw [rowB_total p q h h']
    · rw [if_neg e] at h
      rw [if_neg (Ne.symm e)] at h'
      have := of_decide_eq_false h
      have := of_decide_eq_false h'
      omega
theorem rowLe_antisymm {a b : List Int} (h : rowLe a b = true) (h' : rowLe b a = true) : a = b := by
  unfold rowLe at h h'
  simp only [Bool.not_eq_true'] at h h'
  exact encs_inj (rowB_total _ _ h' h)
theorem rowLe_total : PySem.W.TotalLe rowLe := sortTotal fun a => enc (row a)
/-- a sorted list is known by what is in it -/
theorem srt_unique {L M : List (List Int)} (h : M.Perm L) (s : M.Pairwise fun a b => rowLe a b = true) : M = srt L := by
  refine List.Perm.eq_of_pairwise (le := fun a b => rowLe a b = true) (fun a b _ _ => rowLe_antisymm) s (PySem.W.sort_pairwise rowLe_total L) (h.trans (List.mergeSort_perm L rowLe).symm)
theorem srt_congr {L M : List (List Int)} (h : M.Perm L) : srt M = srt L := srt_unique ((List.mergeSort_perm M rowLe).trans h) (PySem.W.sort_pairwise rowLe_total M)
theorem srt_mem {L : List (List Int)} {a : List Int} : a ∈ srt L ↔ a ∈ L := List.mem_mergeSort
theorem srt_filter (p : List Int → Bool) (L : List (List Int)) : (srt L).filter p = srt (L.filter p) :=
  srt_unique ((List.mergeSort_perm L rowLe).filter p) ((PySem.W.sort_pairwise rowLe_total L).filter p)

theorem anyO_ints (x : Int) : ∀ s : List Int, anyO (fun y => eqDn DEEP y (.int x)) (s.map .int) = some (s.contains x)
  | [] => rfl
  | y :: s => by
    simp only [List.map_cons, anyO, anyO_ints x s, eqD_int DEEP (by decide)]
    rw [List.contains_cons]
    by_cases e : y = x
    · subst e; simp
    · have e1 : (y == x) = false := beq_eq_false_iff_ne.mpr e
      have e2 : (x == y) = false := beq_eq_false_iff_ne.mpr (Ne.symm e)
      rw [e1, e2]
def memI (s : List Int) (x : Int) : Bool := s.contains x
theorem memI_iff {s : List Int} {x : Int} : memI s x = true ↔ x ∈ s := by unfold memI; simp
@[simp] theorem gIn_row (x : Int) (s : List Int) : gIn (.int x) (row s) = some (.val (.bl (memI s x))) := by
  unfold gIn inO
  simp only [seqD, anyO_ints, Option.map, memI]
@[simp] theorem gIn_lst (x : Int) (s : List Int) : gIn (.int x) (.lst (s.map .int)) = some (.val (.bl (memI s x))) := by
  unfold gIn inO
  simp only [seqD, anyO_ints, Option.map, memI]
@[simp] theorem gEq_bl (a b : Bool) : gEq (.bl a) (.bl b) = some (.val (.bl (a == b))) := rfl
@[simp] theorem gNe_bl (a b : Bool) : gNe (.bl a) (.bl b) = some (.val (.bl (!(a == b)))) := rfl
@[simp] theorem gIx_0t (d : D) (l : List D) : gIx (.tup (d :: l)) (.int 0) = some (.val d) := by
  simp [gIx, L2.atI, L2.ixN]
@[simp] theorem gIx_1t (d e : D) (l : List D) : gIx (.tup (d :: e :: l)) (.int 1) = some (.val e) := by
  have : (1 : Int) < (l.length + 1 + 1 : Nat) := by omega
  simp [gIx, L2.atI, L2.ixN]
  split <;> first | rfl | omega
@[simp] theorem gIx_0l (d : D) (l : List D) : gIx (.lst (d :: l)) (.int 0) = some (.val d) := by
  simp [gIx, L2.atI, L2.ixN]
@[simp] theorem gIx_1l (d e : D) (l : List D) : gIx (.lst (d :: e :: l)) (.int 1) = some (.val e) := by
  simp [gIx, L2.atI, L2.ixN]
  split <;> first | rfl | omega

theorem fzs_vals (env : Ev) : ∀ l : List D, fzs env (l.map .val) = some (l, env)
  | [] => rfl
  | d :: l => by simp [fzs_vals env l]
theorem fzs_snoc (env : Ev) (l : List Int) (x : Int) : fzs env (l.map (Hd.val ∘ D.int) ++ [Hd.val (.int x)]) = some ((l ++ [x]).map .int, env) := by
  rw [show l.map (Hd.val ∘ D.int) ++ [Hd.val (.int x)] = ((l ++ [x]).map .int).map .val by simp, fzs_vals]

section
variable {α : Type} (xs : List α) (f : α → Bool) (k : α → Int)
theorem allD_map : allD (.lst (xs.map fun x => .bl (f x))) = some (.val (.bl (xs.all f))) := by
  rw [show xs.map (fun x => D.bl (f x)) = (xs.map f).map .bl by simp, allD_bls]; simp
theorem anyD_map : anyD (.lst (xs.map fun x => .bl (f x))) = some (.val (.bl (xs.any f))) := by
  rw [show xs.map (fun x => D.bl (f x)) = (xs.map f).map .bl by simp, anyD_bls]; simp
theorem sumD_map : sumD (.lst (xs.map fun x => .int (k x))) = some (.val (.int (xs.map k).sum)) := by
  rw [show xs.map (fun x => D.int (k x)) = (xs.map k).map .int by simp, sumD_ints]
end
end Mi
set_option Elab.async false
set_option linter.all false
set_option maxRecDepth 100000
set_option maxHeartbeats 2000000
namespace Mi
open PySem PySem.Spec PyProof.Rows L2

/-! ### whatever is drawn, in so many draws -/
inductive T.lim {α : Type} : T α → Nat → (α → Prop) → Prop
  | ret {a : α} {n : Nat} {Q : α → Prop} (q : Q a) : T.lim (.ret a) n Q
  | draw {k n : Nat} {f : Nat → T α} {Q : α → Prop} (h : ∀ d, d < k → T.lim (f d) n Q) : T.lim (.draw k f) (n + 1) Q
theorem T.bind_bind {α β γ : Type} {t : T α} {f : α → T β} {g : β → T γ} : (t.bind f).bind g = t.bind fun a => (f a).bind g := compL_cons.bind_assoc
theorem T.ok_lim {α : Type} {Q : α → Prop} {t : T α} {n : Nat} (h : t.lim n Q) : t.ok n fun _ a => Q a := by
  induction h with
  | ret q => exact q
  | draw h ih => exact fun d hd => ih d hd
theorem T.lim_mono {α : Type} {Q Q' : α → Prop} (h : ∀ a, Q a → Q' a) {t : T α} {n m : Nat} (l : n ≤ m) (q : t.lim n Q) : t.lim m Q' := by
  induction q generalizing m with
  | ret q => exact .ret (h _ q)
  | draw _ ih =>
    obtain ⟨m, rfl⟩ : ∃ m', m = m' + 1 := ⟨m - 1, by omega⟩
    exact .draw fun d hd => ih d hd h (by omega)
theorem T.lim_bind {α β : Type} {Q : α → Prop} {R : β → Prop} {F : α → T β} {m : Nat} (hF : ∀ a, Q a → (F a).lim m R) {t : T α} {n : Nat} (q : t.lim n Q) : (t.bind F).lim (n + m) R := by
  induction q with
  | ret q => exact T.lim_mono (fun _ h => h) (by omega) (hF _ q)
  | @draw k n f Q h ih =>
    rw [show n + 1 + m = (n + m) + 1 by omega]
    exact .draw fun d hd => ih d hd hF
theorem T.lim_then {α β : Type} {Q : α → Prop} {R : β → Prop} {F : α → T β} {t : T α} {n n1 : Nat} (h : t.lim n1 Q) (l : n1 ≤ n) (hF : ∀ a, Q a → (F a).lim (n - n1) R) : (t.bind F).lim n R := by
  have := T.lim_bind hF h
  rwa [show n1 + (n - n1) = n by omega] at this
@[simp] theorem T.lim_ret {α : Type} {Q : α → Prop} {a : α} {n : Nat} : (T.ret a).lim n Q = Q a := propext ⟨fun h => by cases h; assumption, fun h => .ret h⟩
theorem T.lim_draw {α : Type} {Q : α → Prop} {k n : Nat} {f : Nat → T α} (l : 1 ≤ n) (h : ∀ d, d < k → (f d).lim (n - 1) Q) : (T.draw k f).lim n Q := by
  obtain ⟨m, rfl⟩ : ∃ m, n = m + 1 := ⟨n - 1, by omega⟩
  exact .draw h
theorem T.lim_of {α : Type} {Q : α → Prop} {t : T α} {a : α} {n : Nat} (e : t = .ret a) (q : Q a) : t.lim n Q := by rw [e, T.lim_ret]; exact q
theorem take_e {k : Int} (h : 0 < k) (h' : k < 1073741824) : takeG [.pot, .int k] = .draw k.toNat fun d => .ret (.int (d : Nat)) := by
  show (if 0 < k ∧ k < 1073741824 then _ else _) = _
  rw [if_pos ⟨h, h'⟩]
theorem take_lim {k : Int} {n : Nat} {Q : D → Prop} (h : 0 < k) (h' : k < 1073741824) (l : 1 ≤ n) (q : ∀ d : Nat, (d : Int) < k → Q (.int d)) : (takeG [.pot, .int k]).lim n Q := by
  rw [take_e h h']
  refine T.lim_draw l fun d hd => ?_
  rw [T.lim_ret]
  exact q d (by omega)
theorem mkFn_lim {n np N : Nat} {body : MS} {ds : List D} {Q : D → Prop} (hl : ds.length = np) (h : (body (startM n ds)).lim N fun r => (r.1 = .nx ∧ Q .non) ∨ ∃ d, r.1 = .rt d ∧ Q d) : (mkFn n np body ds).lim N Q := by
  unfold mkFn
  rw [if_pos hl]
  refine T.lim_then h (Nat.le_refl _) fun r q => ?_
  obtain ⟨f, e⟩ := r
  rcases q with ⟨e1, q⟩ | ⟨d, e1, q⟩ <;> (dsimp only at e1; subst e1; simpa using q)
section
variable {α : Type} {f : α → D} {g : GM} {body : MS}
theorem forL_lim (I : List α → Ev → Prop) {n : Nat} : ∀ (items pre : List α) (e : Ev), (∀ p x q e, pre ++ items = p ++ x :: q → I p e → ∃ e', g (f x) e = some e' ∧ (body e').lim n fun r => r.1 = .nx ∧ I (p ++ [x]) r.2) → I pre e → (forL g body (items.map f) e).lim (items.length * n) fun r => r.1 = .nx ∧ I (pre ++ items) r.2
  | [], pre, e, _, i => by simpa [forL] using i
  | x :: xs, pre, e, h, i => by
    obtain ⟨e', h1, h2⟩ := h pre x xs e rfl i
    simp only [List.map_cons, forL, h1]
    refine T.lim_then h2 (by rw [List.length_cons, Nat.succ_mul]; omega) fun r q => ?_
    obtain ⟨fl, e2⟩ := r
    obtain ⟨q1, q2⟩ := q
    dsimp only at q1 q2
    subst q1
    have := forL_lim I xs (pre ++ [x]) e2 (fun p y q e hp => h p y q e (by rw [← hp, List.append_assoc]; rfl)) q2
    rw [List.append_assoc] at this
    rw [List.length_cons, Nat.succ_mul, Nat.add_sub_cancel]
    exact this
/-- a loop that draws nothing: the names after each part of it -/
theorem forL_pre (E : List α → Ev) : ∀ (items pre : List α), (∀ p x q, pre ++ items = p ++ x :: q → ∃ e', g (f x) (E p) = some e' ∧ body e' = .ret (.nx, E (p ++ [x]))) → forL g body (items.map f) (E pre) = .ret (.nx, E (pre ++ items))
  | [], pre, _ => by simp [forL]
  | x :: xs, pre, h => by
    obtain ⟨e', h1, h2⟩ := h pre x xs rfl
    simp only [List.map_cons, forL, h1, h2, T.ret_bind]
    have := forL_pre E xs (pre ++ [x]) fun p y q hp => h p y q (by rw [← hp, List.append_assoc]; rfl)
    rw [List.append_assoc] at this
    exact this
theorem forL_of (E : List α → Ev) {items : List α} {e0 : Ev} (h0 : e0 = E []) (h : ∀ p x q, items = p ++ x :: q → ∃ e', g (f x) (E p) = some e' ∧ body e' = .ret (.nx, E (p ++ [x]))) : forL g body (items.map f) e0 = .ret (.nx, E items) := by
  rw [h0]
  exact forL_pre E items [] h
end
@[simp] theorem frz_nil {e : Ev} : frzAll [] e = e := rfl
@[simp] theorem frz_cons {i : Nat} {is : List Nat} {e : Ev} : frzAll (i :: is) e = match e[i]? with | some (some (true, d)) => frzAll is (e.set i (some (false, d))) | _ => frzAll is e := rfl
def lastS {α : Type} (f : α → Bool × D) (l : List α) : Slot := l.getLast?.map f
@[simp] theorem lastS_nil {α : Type} {f : α → Bool × D} : lastS f [] = none := rfl
@[simp] theorem lastS_snoc {α : Type} {f : α → Bool × D} {l : List α} {x : α} : lastS f (l ++ [x]) = some (f x) := by simp [lastS]
theorem pre_lt {α : Type} {l p q : List α} {x : α} (h : l = p ++ x :: q) : p.length < l.length := by rw [h]; simp
def okM (env : Ev) (i : Nat) : Option (List D × D) → T (Hd × Ev)
  | some (l', d) => .ret (.val d, env.set i (some (true, .lst l')))
  | none => .fail
@[simp] theorem okM_s {env : Ev} {i : Nat} {l' : List D} {d : D} : okM env i (some (l', d)) = .ret (.val d, env.set i (some (true, .lst l'))) := rfl
def okS (g : List D → List D → Option (List D × D)) (i : Nat) (ds : List D) (env : Ev) : Option Slot → T (Hd × Ev)
  | some (some (true, .lst l)) => okM env i (g l ds)
  | _ => .fail
@[simp] theorem okS_s {g : List D → List D → Option (List D × D)} {i : Nat} {ds l : List D} {env : Ev} : okS g i ds env (some (some (true, .lst l))) = okM env i (g l ds) := rfl
def isO (f : T (Hd × Ev)) : Option Slot → T (Hd × Ev)
  | some (some (true, _)) => f
  | _ => .fail
@[simp] theorem isO_s {f : T (Hd × Ev)} {d : D} : isO f (some (some (true, d))) = f := rfl
@[simp] theorem eMut_e {g : List D → List D → Option (List D × D)} {i : Nat} {ms : MH} {env : Ev} : eMut g i ms env = isO ((ms env).bind fun r => fzK (fun ds env' => okS g i ds env' env'[i]?) (fzs r.2 r.1)) env[i]? := by
  unfold eMut isO
  cases env[i]? with
  | none => rfl
  | some s =>
    cases s with
    | none => rfl
    | some z =>
      obtain ⟨b, d⟩ := z
      cases b with
      | false => rfl
      | true =>
        refine congrArg (T.bind (ms env)) (funext fun r => ?_)
        cases fzs r.2 r.1 with
        | none => rfl
        | some z =>
          obtain ⟨ds, env'⟩ := z
          show _ = okS g i ds env' env'[i]?
          unfold okS
          dsimp only
          cases env'[i]? with
          | none => rfl
          | some s =>
            cases s with
            | none => rfl
            | some z =>
              obtain ⟨b, d⟩ := z
              cases b with
              | false => rfl
              | true =>
                cases d with
                | lst l => dsimp only; cases g l ds <;> rfl
                | _ => rfl
theorem append_e {l : List D} {d : D} (h : l.length < 16777216) : gAppend l [d] = some (l ++ [d], .non) := if_pos h
theorem pop0_e {d : D} {l : List D} (h : l.length < 16777216) : gPop1 (d :: l) [.int 0] = some (l, d) := by
  simp [gPop1, L2.ixN]
  omega
theorem pop_e {l : List D} {k : Nat} (hk : k < l.length) (h : l.length ≤ 16777216) : gPop1 l [.int k] = some (l.eraseIdx k, l[k]) := by
  have e : L2.ixN l.length (k : Int) = some k := by
    unfold L2.ixN
    split
    · rw [if_pos (by omega)]; simp
    · omega
  simp [gPop1, e, hk, h]
@[simp] theorem gEq_nil {l : List D} : gEq (.lst l) (.lst []) = some (.val (.bl l.isEmpty)) := by
  cases l with
  | nil => rfl
  | cons x l => simp [gEq, DEEP, eqDn]
@[simp] theorem gNe_nil {l : List D} : gNe (.lst l) (.lst []) = some (.val (.bl (!l.isEmpty))) := by
  cases l with
  | nil => rfl
  | cons x l => simp [gNe, DEEP, eqDn]
@[simp] theorem gEq_nilt {l : List D} : gEq (.tup l) (.tup []) = some (.val (.bl l.isEmpty)) := by
  cases l with
  | nil => rfl
  | cons x l => simp [gEq, DEEP, eqDn, eqL]
theorem eqL_rows {n : Nat} (h : 0 < n) : ∀ L : List (List Int), eqL (eqDn (n + 1)) (L.map row) (L.map row) = some true
  | [] => rfl
  | x :: L => by
    have : eqDn (n + 1) (row x) (row x) = some true := by
      show eqL (eqDn n) _ _ = _
      rw [eqL_ints h]; simp
    simp [eqL, this, eqL_rows h L]
theorem gNe_rows (L : List (List Int)) : gNe (.lst (L.map row)) (.lst (L.map row)) = some (.val (.bl false)) := by
  have : eqDn DEEP (.lst (L.map row)) (.lst (L.map row)) = some true := by
    show (if _ then eqL (eqDn 39) _ _ else _) = _
    rw [if_pos rfl, eqL_rows (n := 38) (by decide)]
  simp [gNe, this]
def parP (o : Option Ev) : T (Fl × Ev) := match o with
  | some env2 => .ret (.nx, env2)
  | none => .fail
@[simp] theorem parP_s {e : Ev} : parP (some e) = .ret (.nx, e) := rfl
def parK (is : List Nat) : Option (List Hd × Ev) → T (Fl × Ev)
  | some (hs, env1) => parP (puts is hs env1)
  | none => .fail
@[simp] theorem parK_s {is : List Nat} {hs : List Hd} {e : Ev} : parK is (some (hs, e)) = parP (puts is hs e) := rfl
@[simp] theorem sPar_e {is : List Nat} {ms : MH} {env : Ev} : sPar is ms env = (ms env).bind fun r => parK is (unslot r.2 r.1) := by
  unfold sPar parK parP
  refine congrArg _ (funext fun r => ?_)
  cases unslot r.2 r.1 <;> rfl
@[simp] theorem isEmpty_map' {α β : Type} {f : α → β} {l : List α} : (l.map f).isEmpty = l.isEmpty := by cases l <;> rfl
theorem lt_pair {w w' : Int} {a b : List Int} : ∃ c, gLt (.tup [.int w, row a]) (.tup [.int w', row b]) = some (.val (.bl c)) ∧ (c = true → w ≤ w') ∧ (c = false → w' ≤ w) := by
  have e1 : eqDn 39 (row a) (row b) = some (decide (a = b)) := eqL_ints (n := 38) (by decide) a b
  obtain ⟨c, e2⟩ := ltL_ints (n := 38) (by decide) a b
  have e2' : ltDn 39 (row a) (row b) = some c := e2
  have e3 : eqDn 39 (.int w) (.int w') = some (w == w') := rfl
  have e4 : ltDn 39 (.int w) (.int w') = some (decide (w < w')) := rfl
  have e0 : ltDn DEEP (.tup [.int w, row a]) (.tup [.int w', row b]) = ltL (eqDn 39) (ltDn 39) [.int w, row a] [.int w', row b] := rfl
  by_cases hw : w = w'
  · subst hw
    by_cases hab : a = b
    · subst hab
      refine ⟨false, ?_, fun _ => Int.le_refl _, fun _ => Int.le_refl _⟩
      rw [gLt, e0]; simp [ltL, e1, e2', e3]
    · refine ⟨c, ?_, fun _ => Int.le_refl _, fun _ => Int.le_refl _⟩
      rw [gLt, e0]; simp [ltL, e1, e2', e3, hab]
  · refine ⟨decide (w < w'), ?_, fun h => by simp at h; omega, fun h => by simp at h; omega⟩
    have : (w == w') = false := beq_eq_false_iff_ne.mpr hw
    by_cases hab : a = b
    · subst hab; rw [gLt, e0]; simp [ltL, e1, e2', e3, e4, this]
    · rw [gLt, e0]; simp [ltL, e1, e2', e3, e4, this, hab]
theorem land_nat (a b : Nat) : Builtin.bitAnd (a : Int) (b : Int) = ((a &&& b : Nat) : Int) := by
  unfold Builtin.bitAnd
  simp
theorem iShl_1 {j : Nat} (h : j ≤ 1000000) : iShl 1 j = some (.int ((2 ^ j : Nat) : Int)) := by
  unfold iShl
  rw [if_pos (by refine ⟨by omega, by omega, by decide⟩)]
  simp
end Mi
set_option Elab.async false
set_option linter.all false
set_option maxRecDepth 100000
set_option maxHeartbeats 4000000
namespace Mi.K17
open PySem PySem.Spec PyProof.Rows L2 Mi
def topS (i : Nat) : Stmt := PySem.Challenge.pw_drybytheirhour_k17_whole_washes_of_two_h.main.body.getD i (.Pass ⟨0, 0, 0, 0⟩)
variable {Pg : Program} {w : World} {K : PySem.W.Frag} {mg : Str → Option Value} {base : Heap}
abbrev st_is_tuple : Stmt := topS 1
theorem sc_is_tuple : FnScope ["value", "least", "most"] ["value", "least", "most"] (defScope st_is_tuple) := ⟨rfl, rfl, rfl, by decide +kernel, rfl, by decide +kernel, by decide +kernel⟩
def b_is_tuple : MS := (sRet (eAnd (eIsi "tuple" (eVar 0)) (eChain (gI iLe) (gI iLe) (eVar 1) (eCall (hCons (eVar 0) hNil) (g1 lenD)) (eVar 2))))
def m_is_tuple : MS := b_is_tuple
def g_is_tuple : List D → T D := mkFn 3 3 m_is_tuple
theorem has_is_tuple {k : Nat} (B : Bl mg)   (Dn : DefIn K mg "is_tuple" st_is_tuple ["value", "least", "most"]) : Has Pg w K mg base (k + 1) "is_tuple" 3 g_is_tuple := by
  obtain ⟨f, fd, Fn, hm, hb⟩ := Dn.ex
  have sc := sc_is_tuple
  exact ⟨f, fd, _, hm, Fn.kp, hb, rfl, fn_okG Fn sc (fun cdv A outer s H Z hr => (ss_one (s_ret (m_and (m_isi B.isinstance B.tuple (by decide +kernel) (m_var 0)) (m_one (m_chain op_leM gI_ns op_leM gI_ns (m_var 1) (m_fn call_lenM (g1_ns lenD_ns) B.len (by decide +kernel) (a_cons (m_var 0) a_nil)) (m_var 2)))))))⟩
abbrev st_is_whole : Stmt := topS 2
theorem sc_is_whole : FnScope ["value"] ["value"] (defScope st_is_whole) := ⟨rfl, rfl, rfl, by decide +kernel, rfl, by decide +kernel, by decide +kernel⟩
def b_is_whole : MS := (sRet (eAnd (eIsi "int" (eVar 0)) (eNotV (eIsi "bool" (eVar 0)))))
def m_is_whole : MS := b_is_whole
def g_is_whole : List D → T D := mkFn 1 1 m_is_whole
theorem has_is_whole {k : Nat} (B : Bl mg)   (Dn : DefIn K mg "is_whole" st_is_whole ["value"]) : Has Pg w K mg base (k + 1) "is_whole" 1 g_is_whole := by
  obtain ⟨f, fd, Fn, hm, hb⟩ := Dn.ex
  have sc := sc_is_whole
  exact ⟨f, fd, _, hm, Fn.kp, hb, rfl, fn_okG Fn sc (fun cdv A outer s H Z hr => (ss_one (s_ret (m_and (m_isi B.isinstance B.int (by decide +kernel) (m_var 0)) (m_one (m_not (m_isi B.isinstance B.bool (by decide +kernel) (m_var 0))))))))⟩
abbrev st_is_integer : Stmt := topS 3
theorem sc_is_integer : FnScope ["value", "low", "high"] ["value", "low", "high"] (defScope st_is_integer) := ⟨rfl, rfl, rfl, by decide +kernel, rfl, by decide +kernel, by decide +kernel⟩
def b_is_integer (g_is_whole : List D → T D) : MS := (sRet (eAnd (eDef g_is_whole (hCons (eVar 0) hNil)) (eChain (gI iLe) (gI iLe) (eVar 1) (eVar 0) (eVar 2))))
def m_is_integer : MS := b_is_integer g_is_whole
def g_is_integer : List D → T D := mkFn 3 3 m_is_integer
theorem has_is_integer {k : Nat} (B : Bl mg)  (h_is_whole : Has Pg w K mg base k "is_whole" 1 g_is_whole) (Dn : DefIn K mg "is_integer" st_is_integer ["value", "low", "high"]) : Has Pg w K mg base (k + 1) "is_integer" 3 g_is_integer := by
  obtain ⟨f, fd, Fn, hm, hb⟩ := Dn.ex
  have sc := sc_is_integer
  exact ⟨f, fd, _, hm, Fn.kp, hb, rfl, fn_okG Fn sc (fun cdv A outer s H Z hr => (ss_one (s_ret (m_and (m_call h_is_whole hr (hCons_len hNil_len) (a_cons (m_var 0) a_nil)) (m_one (m_chain op_leM gI_ns op_leM gI_ns (m_var 1) (m_var 0) (m_var 2)))))))⟩
abbrev st_is_rising : Stmt := topS 4
theorem sc_is_rising : FnScope ["values", "one", "other"] ["values"] (defScope st_is_rising) := ⟨rfl, rfl, rfl, by decide +kernel, rfl, by decide +kernel, by decide +kernel⟩
def b_is_rising : MS := (sRet (eCall (hCons (eComp [1, 2] (iZipM (hCons (eVar 0) (hCons (eSl (eVar 0) (oSome (eC (.int 1))) oNone) hNil))) (gTp 2 (gsCons (gNm 1) (gsCons (gNm 2) gsNil))) mYes (eOp gLt (eVar 1) (eVar 2))) hNil) (g1 allD)))
def m_is_rising : MS := b_is_rising
def g_is_rising : List D → T D := mkFn 3 1 m_is_rising
theorem has_is_rising {k : Nat} (B : Bl mg)   (Dn : DefIn K mg "is_rising" st_is_rising ["values"]) : Has Pg w K mg base (k + 1) "is_rising" 1 g_is_rising := by
  obtain ⟨f, fd, Fn, hm, hb⟩ := Dn.ex
  have sc := sc_is_rising
  exact ⟨f, fd, _, hm, Fn.kp, hb, rfl, fn_okG Fn sc (fun cdv A outer s H Z hr => (ss_one (s_ret (m_fn (call_allM rfl) (g1_ns allD_ns) B.all (by decide +kernel) (a_cons (m_comp [("one", 1), ("other", 2)] sc.nd (pi_zipM rfl (by rfl) B.zip (a_cons (m_var 0) (a_cons (m_sl (m_var 0) (o_some m_int) o_none) a_nil))) (blkOk_by (by kernel_rfl)) (fun _ _ _ _ _ => (g_tup (gs_cons (g_name 1 sc.nd) (gs_cons (g_name 2 sc.nd) gs_nil)))) (fun _ _ _ _ _ => ts_nil) (fun _ _ _ _ _ => (m_cmp (r_lt hr) gLt_ns (m_var 1) (m_var 2) (nomark _)))) a_nil)))))⟩
abbrev st_is_load : Stmt := topS 18
theorem sc_is_load : FnScope ["many", "value", "lot"] ["many", "value"] (defScope st_is_load) := ⟨rfl, rfl, rfl, by decide +kernel, rfl, by decide +kernel, by decide +kernel⟩
def b_is_load (g_is_integer g_is_rising g_is_tuple : List D → T D) : MS := (sSeq (sIf (mOr (mNot (mTest (eDef g_is_tuple (hCons (eVar 1) (hCons (eC (.int 1)) (hCons (eVar 0) hNil)))))) (mNot (mTest (eCall (hCons (eComp [2] (iSeq (eVar 1)) (gNm 2) mYes (eDef g_is_integer (hCons (eVar 2) (hCons (eC (.int 0)) (hCons (eOp (gI iSub) (eVar 0) (eC (.int 1))) hNil))))) hNil) (g1 allD))))) (sRet (eC (.bl false))) sNext)
  (sRet (eDef g_is_rising (hCons (eVar 1) hNil))))
def m_is_load : MS := b_is_load g_is_integer g_is_rising g_is_tuple
def g_is_load : List D → T D := mkFn 3 2 m_is_load
theorem has_is_load {k : Nat} (B : Bl mg)  (h_is_integer : Has Pg w K mg base k "is_integer" 3 g_is_integer) (h_is_rising : Has Pg w K mg base k "is_rising" 1 g_is_rising) (h_is_tuple : Has Pg w K mg base k "is_tuple" 3 g_is_tuple) (Dn : DefIn K mg "is_load" st_is_load ["many", "value"]) : Has Pg w K mg base (k + 1) "is_load" 2 g_is_load := by
  obtain ⟨f, fd, Fn, hm, hb⟩ := Dn.ex
  have sc := sc_is_load
  exact ⟨f, fd, _, hm, Fn.kp, hb, rfl, fn_okG Fn sc (fun cdv A outer s H Z hr => (ss_cons (s_if (PW.pt (w_or (t_not (t_val (m_call h_is_tuple hr (hCons_len (hCons_len (hCons_len hNil_len))) (a_cons (m_var 1) (a_cons m_int (a_cons (m_var 0) a_nil)))))) (w_one' (t_not (t_val (m_fn (call_allM rfl) (g1_ns allD_ns) B.all (by decide +kernel) (a_cons (m_comp [("lot", 2)] sc.nd (pi_seqM rfl (m_var 1)) (blkOk_by (by kernel_rfl)) (fun _ _ _ _ _ => (g_name 2 sc.nd)) (fun _ _ _ _ _ => ts_nil) (fun _ _ _ _ _ => (m_call h_is_integer hr (hCons_len (hCons_len (hCons_len hNil_len))) (a_cons (m_var 2) (a_cons m_int (a_cons (m_op op_subM gI_ns (m_var 0) m_int) a_nil)))))) a_nil))))))) (ss_one (s_ret m_bl)) ss_nil)
  (ss_one (s_ret (m_call h_is_rising hr (hCons_len hNil_len) (a_cons (m_var 1) a_nil))))))⟩
abbrev st_is_wash : Stmt := topS 19
theorem sc_is_wash : FnScope ["many", "value"] ["many", "value"] (defScope st_is_wash) := ⟨rfl, rfl, rfl, by decide +kernel, rfl, by decide +kernel, by decide +kernel⟩
def b_is_wash (g_is_load g_is_tuple : List D → T D) : MS := (sRet (eAnd (eDef g_is_tuple (hCons (eVar 1) (hCons (eC (.int 2)) (hCons (eC (.int 2)) hNil)))) (eAnd (eDef g_is_load (hCons (eVar 0) (hCons (eOp gIx (eVar 1) (eC (.int 0))) hNil))) (eIsi "bool" (eOp gIx (eVar 1) (eC (.int 1)))))))
def m_is_wash : MS := b_is_wash g_is_load g_is_tuple
def g_is_wash : List D → T D := mkFn 2 2 m_is_wash
theorem has_is_wash {k : Nat} (B : Bl mg) (c_PAIR : CAt mg "PAIR" (.int 2)) (h_is_load : Has Pg w K mg base k "is_load" 2 g_is_load) (h_is_tuple : Has Pg w K mg base k "is_tuple" 3 g_is_tuple) (Dn : DefIn K mg "is_wash" st_is_wash ["many", "value"]) : Has Pg w K mg base (k + 1) "is_wash" 2 g_is_wash := by
  obtain ⟨f, fd, Fn, hm, hb⟩ := Dn.ex
  have sc := sc_is_wash
  exact ⟨f, fd, _, hm, Fn.kp, hb, rfl, fn_okG Fn sc (fun cdv A outer s H Z hr => (ss_one (s_ret (m_and (m_call h_is_tuple hr (hCons_len (hCons_len (hCons_len hNil_len))) (a_cons (m_var 1) (a_cons (m_glob c_PAIR) (a_cons (m_glob c_PAIR) a_nil)))) (m_and (m_call h_is_load hr (hCons_len (hCons_len hNil_len)) (a_cons (m_var 0) (a_cons (m_ix (m_var 1) m_int) a_nil))) (m_one (m_isi B.isinstance B.bool (by decide +kernel) (m_ix (m_var 1) m_int))))))))⟩
abbrev st_check_many : Stmt := topS 20
theorem sc_check_many : FnScope ["value"] ["value"] (defScope st_check_many) := ⟨rfl, rfl, rfl, by decide +kernel, rfl, by decide +kernel, by decide +kernel⟩
def b_check_many (g_is_integer : List D → T D) : MS := (sIf (mNot (mTest (eDef g_is_integer (hCons (eVar 0) (hCons (eC (.int 1)) (hCons (eC (.int 12)) hNil)))))) sNever sNext)
def m_check_many : MS := b_check_many g_is_integer
def g_check_many : List D → T D := mkFn 1 1 m_check_many
theorem has_check_many {k : Nat} (B : Bl mg) (c_MOST_LOTS : CAt mg "MOST_LOTS" (.int 12)) (h_is_integer : Has Pg w K mg base k "is_integer" 3 g_is_integer) (Dn : DefIn K mg "check_many" st_check_many ["value"]) : Has Pg w K mg base (k + 1) "check_many" 1 g_check_many := by
  obtain ⟨f, fd, Fn, hm, hb⟩ := Dn.ex
  have sc := sc_check_many
  exact ⟨f, fd, _, hm, Fn.kp, hb, rfl, fn_okG Fn sc (fun cdv A outer s H Z hr => (ss_one (s_if (t_not (t_val (m_call h_is_integer hr (hCons_len (hCons_len (hCons_len hNil_len))) (a_cons (m_var 0) (a_cons m_int (a_cons (m_glob c_MOST_LOTS) a_nil)))))) (ss_one s_never) ss_nil)))⟩
abbrev st_check_case : Stmt := topS 21
theorem sc_check_case : FnScope ["many", "washes", "least", "most", "wash"] ["many", "washes", "least", "most"] (defScope st_check_case) := ⟨rfl, rfl, rfl, by decide +kernel, rfl, by decide +kernel, by decide +kernel⟩
def r_check_case_3 (g_check_many g_is_integer g_is_tuple g_is_wash : List D → T D) : MS := (sIf (mNot (mTest (eDef g_is_integer (hCons (eVar 3) (hCons (eVar 2) (hCons (eCall (hCons (eVar 0) (hCons (eC (.int 3)) hNil)) (gI2 min)) hNil)))))) sNever sNext)
def r_check_case_2 (g_check_many g_is_integer g_is_tuple g_is_wash : List D → T D) : MS := (sSeq (sIf (mNot (mTest (eDef g_is_integer (hCons (eVar 2) (hCons (eC (.int 0)) (hCons (eCall (hCons (eVar 0) (hCons (eC (.int 3)) hNil)) (gI2 min)) hNil)))))) sNever sNext)
  (r_check_case_3 g_check_many g_is_integer g_is_tuple g_is_wash))
def r_check_case_1 (g_check_many g_is_integer g_is_tuple g_is_wash : List D → T D) : MS := (sSeq (sIf (mOr (mNot (mTest (eDef g_is_tuple (hCons (eVar 1) (hCons (eC (.int 0)) (hCons (eC (.int 30)) hNil)))))) (mNot (mTest (eCall (hCons (eComp [4] (iSeq (eVar 1)) (gNm 4) mYes (eDef g_is_wash (hCons (eVar 0) (hCons (eVar 4) hNil)))) hNil) (g1 allD))))) sNever sNext)
  (r_check_case_2 g_check_many g_is_integer g_is_tuple g_is_wash))
def b_check_case (g_check_many g_is_integer g_is_tuple g_is_wash : List D → T D) : MS := (sSeq (sDrop (eDef g_check_many (hCons (eVar 0) hNil)))
  (r_check_case_1 g_check_many g_is_integer g_is_tuple g_is_wash))
def m_check_case : MS := b_check_case g_check_many g_is_integer g_is_tuple g_is_wash
def g_check_case : List D → T D := mkFn 5 4 m_check_case
theorem has_check_case {k : Nat} (B : Bl mg) (c_MOST_RAN : CAt mg "MOST_RAN" (.int 3)) (c_MOST_WASHES : CAt mg "MOST_WASHES" (.int 30)) (h_check_many : Has Pg w K mg base k "check_many" 1 g_check_many) (h_is_integer : Has Pg w K mg base k "is_integer" 3 g_is_integer) (h_is_tuple : Has Pg w K mg base k "is_tuple" 3 g_is_tuple) (h_is_wash : Has Pg w K mg base k "is_wash" 2 g_is_wash) (Dn : DefIn K mg "check_case" st_check_case ["many", "washes", "least", "most"]) : Has Pg w K mg base (k + 1) "check_case" 4 g_check_case := by
  obtain ⟨f, fd, Fn, hm, hb⟩ := Dn.ex
  have sc := sc_check_case
  exact ⟨f, fd, _, hm, Fn.kp, hb, rfl, fn_okG Fn sc (fun cdv A outer s H Z hr => (ss_cons (s_expr (m_call h_check_many hr (hCons_len hNil_len) (a_cons (m_var 0) a_nil)))
  (ss_cons (s_if (PW.pt (w_or (t_not (t_val (m_call h_is_tuple hr (hCons_len (hCons_len (hCons_len hNil_len))) (a_cons (m_var 1) (a_cons m_int (a_cons (m_glob c_MOST_WASHES) a_nil)))))) (w_one' (t_not (t_val (m_fn (call_allM rfl) (g1_ns allD_ns) B.all (by decide +kernel) (a_cons (m_comp [("wash", 4)] sc.nd (pi_seqM rfl (m_var 1)) (blkOk_by (by kernel_rfl)) (fun _ _ _ _ _ => (g_name 4 sc.nd)) (fun _ _ _ _ _ => ts_nil) (fun _ _ _ _ _ => (m_call h_is_wash hr (hCons_len (hCons_len hNil_len)) (a_cons (m_var 0) (a_cons (m_var 4) a_nil))))) a_nil))))))) (ss_one s_never) ss_nil)
  (ss_cons (s_if (t_not (t_val (m_call h_is_integer hr (hCons_len (hCons_len (hCons_len hNil_len))) (a_cons (m_var 2) (a_cons m_int (a_cons (m_fn (call_min2M rfl) gI2_ns B.min (by decide +kernel) (a_cons (m_var 0) (a_cons (m_glob c_MOST_RAN) a_nil))) a_nil)))))) (ss_one s_never) ss_nil)
  (ss_one (s_if (t_not (t_val (m_call h_is_integer hr (hCons_len (hCons_len (hCons_len hNil_len))) (a_cons (m_var 3) (a_cons (m_var 2) (a_cons (m_fn (call_min2M rfl) gI2_ns B.min (by decide +kernel) (a_cons (m_var 0) (a_cons (m_glob c_MOST_RAN) a_nil))) a_nil)))))) (ss_one s_never) ss_nil))))))⟩
abbrev st_sets_of : Stmt := topS 22
theorem sc_sets_of : FnScope ["many", "least", "most", "found", "lot", "some"] ["many", "least", "most"] (defScope st_sets_of) := ⟨rfl, rfl, rfl, by decide +kernel, rfl, by decide +kernel, by decide +kernel⟩
def f_sets_of_1 : MS := (sDrop (eMut gExtend 3 (hCons (eComp [5] (iSeq (eCall (hCons (eVar 3) hNil) (g1 listD))) (gNm 5) (mTest (eOp gLt (eCall (hCons (eVar 5) hNil) (g1 lenD)) (eVar 2))) (eTup (hFew (hStar (eVar 5) (hCons (eVar 4) hNil))))) hNil)))
def b_sets_of : MS := (sSeq (sSet 3 (eLst (hCons (eTup hNil) hNil)))
  (sSeq (sFor (iRng (hCons (eVar 0) hNil)) (gNm 4) (f_sets_of_1))
  (sRet (eCall (hCons (eComp [5] (iSeq (eVar 3)) (gNm 5) (mTest (eOp (gI iGe) (eCall (hCons (eVar 5) hNil) (g1 lenD)) (eVar 1))) (eVar 5)) hNil) (g1 sortedD)))))
def m_sets_of : MS := b_sets_of
def g_sets_of : List D → T D := mkFn 6 3 m_sets_of
theorem has_sets_of {k : Nat} (B : Bl mg)   (Dn : DefIn K mg "sets_of" st_sets_of ["many", "least", "most"]) : Has Pg w K mg base (k + 1) "sets_of" 3 g_sets_of := by
  obtain ⟨f, fd, Fn, hm, hb⟩ := Dn.ex
  have sc := sc_sets_of
  exact ⟨f, fd, _, hm, Fn.kp, hb, rfl, fn_okG Fn sc (fun cdv A outer s H Z hr => (ss_cons (s_set sc.nd (m_lst (a_cons (m_tup a_nil hNil_len) a_nil) (hCons_len hNil_len)))
  (ss_cons (s_for (g_name 4 sc.nd) (pi_rng1M rfl (by rfl) B.range (a_cons (m_var 0) a_nil) (hCons_len hNil_len)) (ss_one (s_expr (m_mut op_extend mt_extend PySem.F.slot_list_extend PySem.F.type_list_extend (pv 3) (a_cons (m_comp [("some", 5)] sc.nd (pi_seqM rfl (m_ty call_listM (g1_ns listD_ns) B.list (by decide +kernel) (a_cons (m_var 3) a_nil))) (blkOk_by (by kernel_rfl)) (fun _ _ _ _ _ => (g_name 5 sc.nd)) (fun _ _ _ _ _ => (ts_one (t_cmp (r_lt hr) gLt_ns (m_fn call_lenM (g1_ns lenD_ns) B.len (by decide +kernel) (a_cons (m_var 5) a_nil)) (m_var 2) (nomark _)))) (fun _ _ _ _ _ => (m_tupS (a_star (m_var 5) (a_cons (m_var 4) a_nil))))) a_nil)))))
  (ss_one (s_ret (m_fn (r_sorted hr) (g1_ns sortedD_ns) B.sorted (by decide +kernel) (a_cons (m_comp [("some", 5)] sc.nd (pi_seqM rfl (m_var 3)) (blkOk_by (by kernel_rfl)) (fun _ _ _ _ _ => (g_name 5 sc.nd)) (fun _ _ _ _ _ => (ts_one (t_cmp op_geM gI_ns (m_fn call_lenM (g1_ns lenD_ns) B.len (by decide +kernel) (a_cons (m_var 5) a_nil)) (m_var 1) (nomark _)))) (fun _ _ _ _ _ => (m_var 5))) a_nil)))))))⟩
abbrev st_fits : Stmt := topS 23
theorem sc_fits : FnScope ["some", "wash", "lot"] ["some", "wash"] (defScope st_fits) := ⟨rfl, rfl, rfl, by decide +kernel, rfl, by decide +kernel, by decide +kernel⟩
def b_fits : MS := (sRet (eOp gEq (eCall (hCons (eComp [2] (iSeq (eOp gIx (eVar 1) (eC (.int 0)))) (gNm 2) mYes (eOp gIn (eVar 2) (eVar 0))) hNil) (g1 anyD)) (eOp gIx (eVar 1) (eC (.int 1)))))
def m_fits : MS := b_fits
def g_fits : List D → T D := mkFn 3 2 m_fits
theorem has_fits {k : Nat} (B : Bl mg)   (Dn : DefIn K mg "fits" st_fits ["some", "wash"]) : Has Pg w K mg base (k + 1) "fits" 2 g_fits := by
  obtain ⟨f, fd, Fn, hm, hb⟩ := Dn.ex
  have sc := sc_fits
  exact ⟨f, fd, _, hm, Fn.kp, hb, rfl, fn_okG Fn sc (fun cdv A outer s H Z hr => (ss_one (s_ret (m_cmp (r_eq hr) gEq_ns (m_fn (call_anyM rfl) (g1_ns anyD_ns) B.any (by decide +kernel) (a_cons (m_comp [("lot", 2)] sc.nd (pi_seqM rfl (m_ix (m_var 1) m_int)) (blkOk_by (by kernel_rfl)) (fun _ _ _ _ _ => (g_name 2 sc.nd)) (fun _ _ _ _ _ => ts_nil) (fun _ _ _ _ _ => (m_cmp (r_in hr) gIn_ns (m_var 2) (m_var 0) (by with_unfolding_all rfl)))) a_nil)) (m_ix (m_var 1) m_int) (nomark _)))))⟩
abbrev st_left_of : Stmt := topS 24
theorem sc_left_of : FnScope ["many", "washes", "least", "most", "some", "wash"] ["many", "washes", "least", "most"] (defScope st_left_of) := ⟨rfl, rfl, rfl, by decide +kernel, rfl, by decide +kernel, by decide +kernel⟩
def b_left_of (g_fits g_sets_of : List D → T D) : MS := (sRet (eComp [4] (iSeq (eDef g_sets_of (hCons (eVar 0) (hCons (eVar 2) (hCons (eVar 3) hNil))))) (gNm 4) (mTest (eCall (hCons (eComp [5] (iSeq (eVar 1)) (gNm 5) mYes (eDef g_fits (hCons (eVar 4) (hCons (eVar 5) hNil)))) hNil) (g1 allD))) (eVar 4)))
def m_left_of : MS := b_left_of g_fits g_sets_of
def g_left_of : List D → T D := mkFn 6 4 m_left_of
theorem has_left_of {k : Nat} (B : Bl mg)  (h_fits : Has Pg w K mg base k "fits" 2 g_fits) (h_sets_of : Has Pg w K mg base k "sets_of" 3 g_sets_of) (Dn : DefIn K mg "left_of" st_left_of ["many", "washes", "least", "most"]) : Has Pg w K mg base (k + 1) "left_of" 4 g_left_of := by
  obtain ⟨f, fd, Fn, hm, hb⟩ := Dn.ex
  have sc := sc_left_of
  exact ⟨f, fd, _, hm, Fn.kp, hb, rfl, fn_okG Fn sc (fun cdv A outer s H Z hr => (ss_one (s_ret (m_comp [("some", 4)] sc.nd (pi_seqM rfl (m_call h_sets_of hr (hCons_len (hCons_len (hCons_len hNil_len))) (a_cons (m_var 0) (a_cons (m_var 2) (a_cons (m_var 3) a_nil))))) (blkOk_by (by kernel_rfl)) (fun _ _ _ _ _ => (g_name 4 sc.nd)) (fun _ _ _ _ _ => (ts_one (t_val (m_fn (call_allM rfl) (g1_ns allD_ns) B.all (by decide +kernel) (a_cons (m_comp [("wash", 5)] sc.nd (pi_seqM rfl (m_var 1)) (blkOk_by (by kernel_rfl)) (fun _ _ _ _ _ => (g_name 5 sc.nd)) (fun _ _ _ _ _ => ts_nil) (fun _ _ _ _ _ => (m_call h_fits hr (hCons_len (hCons_len hNil_len)) (a_cons (m_var 4) (a_cons (m_var 5) a_nil))))) a_nil))))) (fun _ _ _ _ _ => (m_var 4))))))⟩
abbrev st_may_have : Stmt := topS 25
theorem sc_may_have : FnScope ["many", "washes", "least", "most"] ["many", "washes", "least", "most"] (defScope st_may_have) := ⟨rfl, rfl, rfl, by decide +kernel, rfl, by decide +kernel, by decide +kernel⟩
def b_may_have (g_check_case g_left_of : List D → T D) : MS := (sSeq (sDrop (eDef g_check_case (hCons (eVar 0) (hCons (eVar 1) (hCons (eVar 2) (hCons (eVar 3) hNil))))))
  (sRet (eCall (hCons (eDef g_left_of (hCons (eVar 0) (hCons (eVar 1) (hCons (eVar 2) (hCons (eVar 3) hNil))))) hNil) (g1 tupleD))))
def m_may_have : MS := b_may_have g_check_case g_left_of
def g_may_have : List D → T D := mkFn 4 4 m_may_have
theorem has_may_have {k : Nat} (B : Bl mg)  (h_check_case : Has Pg w K mg base k "check_case" 4 g_check_case) (h_left_of : Has Pg w K mg base k "left_of" 4 g_left_of) (Dn : DefIn K mg "may_have" st_may_have ["many", "washes", "least", "most"]) : Has Pg w K mg base (k + 1) "may_have" 4 g_may_have := by
  obtain ⟨f, fd, Fn, hm, hb⟩ := Dn.ex
  have sc := sc_may_have
  exact ⟨f, fd, _, hm, Fn.kp, hb, rfl, fn_okG Fn sc (fun cdv A outer s H Z hr => (ss_cons (s_expr (m_call h_check_case hr (hCons_len (hCons_len (hCons_len (hCons_len hNil_len)))) (a_cons (m_var 0) (a_cons (m_var 1) (a_cons (m_var 2) (a_cons (m_var 3) a_nil))))))
  (ss_one (s_ret (m_ty call_tupleM (g1_ns tupleD_ns) B.tuple (by decide +kernel) (a_cons (m_call h_left_of hr (hCons_len (hCons_len (hCons_len (hCons_len hNil_len)))) (a_cons (m_var 0) (a_cons (m_var 1) (a_cons (m_var 2) (a_cons (m_var 3) a_nil))))) a_nil))))))⟩
abbrev st_words_of : Stmt := topS 26
theorem sc_words_of : FnScope ["many", "some", "found", "lot", "ran", "one"] ["many", "some"] (defScope st_words_of) := ⟨rfl, rfl, rfl, by decide +kernel, rfl, by decide +kernel, by decide +kernel⟩
def f_words_of_1 : MS := (sSeq (sSet 4 (eFrz [] (eComp [5] (iSeq (eVar 1)) (gNm 5) mYes (eOp gIn (eVar 3) (eVar 5)))))
  (sDrop (eMut gAppend 2 (hCons (eIf (mTest (eCall (hCons (eVar 4) hNil) (g1 allD))) (eC (.str [115, 117, 114, 101])) (eIf (mTest (eCall (hCons (eVar 4) hNil) (g1 anyD))) (eC (.str [111, 112, 101, 110])) (eC (.str [110, 101, 118, 101, 114])))) hNil))))
def b_words_of : MS := (sSeq (sSet 2 (eLst hNil))
  (sSeq (sFor (iRng (hCons (eVar 0) hNil)) (gNm 3) (f_words_of_1))
  (sRet (eCall (hCons (eVar 2) hNil) (g1 tupleD)))))
def m_words_of : MS := b_words_of
def g_words_of : List D → T D := mkFn 6 2 m_words_of
theorem has_words_of {k : Nat} (B : Bl mg) (c_NEVER : CAt mg "NEVER" (.str [110, 101, 118, 101, 114])) (c_OPEN : CAt mg "OPEN" (.str [111, 112, 101, 110])) (c_SURE : CAt mg "SURE" (.str [115, 117, 114, 101]))  (Dn : DefIn K mg "words_of" st_words_of ["many", "some"]) : Has Pg w K mg base (k + 1) "words_of" 2 g_words_of := by
  obtain ⟨f, fd, Fn, hm, hb⟩ := Dn.ex
  have sc := sc_words_of
  exact ⟨f, fd, _, hm, Fn.kp, hb, rfl, fn_okG Fn sc (fun cdv A outer s H Z hr => (ss_cons (s_set sc.nd (m_lst a_nil hNil_len))
  (ss_cons (s_for (g_name 3 sc.nd) (pi_rng1M rfl (by rfl) B.range (a_cons (m_var 0) a_nil) (hCons_len hNil_len)) (ss_cons (s_setLc [("one", 5)] [] sc.nd (pi_seqM rfl (m_var 1)) (blkOk_by (by kernel_rfl)) (fun _ _ _ _ _ => (g_name 5 sc.nd)) (fun _ _ _ _ _ => ts_nil) (fun _ _ _ _ _ => (m_cmp (r_in hr) gIn_ns (m_var 3) (m_var 5) (by with_unfolding_all rfl))))
  (ss_one (s_expr (m_mut op_append mt_append PySem.F.slot_list_append PySem.F.type_list_append (pv 2) (a_cons (m_if (t_val (m_fn (call_allM rfl) (g1_ns allD_ns) B.all (by decide +kernel) (a_cons (m_var 4) a_nil))) (m_glob c_SURE) (m_if (t_val (m_fn (call_anyM rfl) (g1_ns anyD_ns) B.any (by decide +kernel) (a_cons (m_var 4) a_nil))) (m_glob c_OPEN) (m_glob c_NEVER))) a_nil))))))
  (ss_one (s_ret (m_ty call_tupleM (g1_ns tupleD_ns) B.tuple (by decide +kernel) (a_cons (m_var 2) a_nil)))))))⟩
abbrev st_told : Stmt := topS 27
theorem sc_told : FnScope ["many", "washes", "least", "most", "some"] ["many", "washes", "least", "most"] (defScope st_told) := ⟨rfl, rfl, rfl, by decide +kernel, rfl, by decide +kernel, by decide +kernel⟩
def b_told (g_check_case g_left_of g_words_of : List D → T D) : MS := (sSeq (sDrop (eDef g_check_case (hCons (eVar 0) (hCons (eVar 1) (hCons (eVar 2) (hCons (eVar 3) hNil))))))
  (sSeq (sSet 4 (eDef g_left_of (hCons (eVar 0) (hCons (eVar 1) (hCons (eVar 2) (hCons (eVar 3) hNil))))))
  (sRet (eIf (mTest (eOp gNe (eVar 4) (eLst hNil))) (eDef g_words_of (hCons (eVar 0) (hCons (eVar 4) hNil))) (eC .non)))))
def m_told : MS := b_told g_check_case g_left_of g_words_of
def g_told : List D → T D := mkFn 5 4 m_told
theorem has_told {k : Nat} (B : Bl mg)  (h_check_case : Has Pg w K mg base k "check_case" 4 g_check_case) (h_left_of : Has Pg w K mg base k "left_of" 4 g_left_of) (h_words_of : Has Pg w K mg base k "words_of" 2 g_words_of) (Dn : DefIn K mg "told" st_told ["many", "washes", "least", "most"]) : Has Pg w K mg base (k + 1) "told" 4 g_told := by
  obtain ⟨f, fd, Fn, hm, hb⟩ := Dn.ex
  have sc := sc_told
  exact ⟨f, fd, _, hm, Fn.kp, hb, rfl, fn_okG Fn sc (fun cdv A outer s H Z hr => (ss_cons (s_expr (m_call h_check_case hr (hCons_len (hCons_len (hCons_len (hCons_len hNil_len)))) (a_cons (m_var 0) (a_cons (m_var 1) (a_cons (m_var 2) (a_cons (m_var 3) a_nil))))))
  (ss_cons (s_set sc.nd (m_call h_left_of hr (hCons_len (hCons_len (hCons_len (hCons_len hNil_len)))) (a_cons (m_var 0) (a_cons (m_var 1) (a_cons (m_var 2) (a_cons (m_var 3) a_nil))))))
  (ss_one (s_ret (m_if (t_cmp (r_ne hr) gNe_ns (m_var 4) (m_lst a_nil hNil_len) (nomark _)) (m_call h_words_of hr (hCons_len (hCons_len hNil_len)) (a_cons (m_var 0) (a_cons (m_var 4) a_nil))) m_non))))))⟩
abbrev st_first_wrong : Stmt := topS 28
theorem sc_first_wrong : FnScope ["many", "washes", "least", "most", "some", "at", "wash", "one"] ["many", "washes", "least", "most"] (defScope st_first_wrong) := ⟨rfl, rfl, rfl, by decide +kernel, rfl, by decide +kernel, by decide +kernel⟩
def f_first_wrong_1 (g_check_case g_fits g_sets_of : List D → T D) : MS := (sSeq (sSet 4 (eFrz [] (eComp [7] (iSeq (eVar 4)) (gNm 7) (mTest (eDef g_fits (hCons (eVar 7) (hCons (eVar 6) hNil)))) (eVar 7))))
  (sIf (mTest (eOp gEq (eVar 4) (eLst hNil))) (sRet (eVar 5)) sNext))
def r_first_wrong_3 (g_check_case g_fits g_sets_of : List D → T D) : MS := (sRet (eC .non))
def r_first_wrong_2 (g_check_case g_fits g_sets_of : List D → T D) : MS := (sSeq (sFor (iEnumM (hCons (eVar 1) hNil)) (gTp 2 (gsCons (gNm 5) (gsCons (gNm 6) gsNil))) (f_first_wrong_1 g_check_case g_fits g_sets_of))
  (r_first_wrong_3 g_check_case g_fits g_sets_of))
def r_first_wrong_1 (g_check_case g_fits g_sets_of : List D → T D) : MS := (sSeq (sSet 4 (eDef g_sets_of (hCons (eVar 0) (hCons (eVar 2) (hCons (eVar 3) hNil)))))
  (r_first_wrong_2 g_check_case g_fits g_sets_of))
def b_first_wrong (g_check_case g_fits g_sets_of : List D → T D) : MS := (sSeq (sDrop (eDef g_check_case (hCons (eVar 0) (hCons (eVar 1) (hCons (eVar 2) (hCons (eVar 3) hNil))))))
  (r_first_wrong_1 g_check_case g_fits g_sets_of))
def m_first_wrong : MS := b_first_wrong g_check_case g_fits g_sets_of
def g_first_wrong : List D → T D := mkFn 8 4 m_first_wrong
theorem has_first_wrong {k : Nat} (B : Bl mg)  (h_check_case : Has Pg w K mg base k "check_case" 4 g_check_case) (h_fits : Has Pg w K mg base k "fits" 2 g_fits) (h_sets_of : Has Pg w K mg base k "sets_of" 3 g_sets_of) (Dn : DefIn K mg "first_wrong" st_first_wrong ["many", "washes", "least", "most"]) : Has Pg w K mg base (k + 1) "first_wrong" 4 g_first_wrong := by
  obtain ⟨f, fd, Fn, hm, hb⟩ := Dn.ex
  have sc := sc_first_wrong
  exact ⟨f, fd, _, hm, Fn.kp, hb, rfl, fn_okG Fn sc (fun cdv A outer s H Z hr => (ss_cons (s_expr (m_call h_check_case hr (hCons_len (hCons_len (hCons_len (hCons_len hNil_len)))) (a_cons (m_var 0) (a_cons (m_var 1) (a_cons (m_var 2) (a_cons (m_var 3) a_nil))))))
  (ss_cons (s_set sc.nd (m_call h_sets_of hr (hCons_len (hCons_len (hCons_len hNil_len))) (a_cons (m_var 0) (a_cons (m_var 2) (a_cons (m_var 3) a_nil)))))
  (ss_cons (s_for (g_tup (gs_cons (g_name 5 sc.nd) (gs_cons (g_name 6 sc.nd) gs_nil))) (pi_enumM rfl (by rfl) B.enumerate (a_cons (m_var 1) a_nil)) (ss_cons (s_setLc [("one", 7)] [] sc.nd (pi_seqM rfl (m_var 4)) (blkOk_by (by kernel_rfl)) (fun _ _ _ _ _ => (g_name 7 sc.nd)) (fun _ _ _ _ _ => (ts_one (t_val (m_call h_fits hr (hCons_len (hCons_len hNil_len)) (a_cons (m_var 7) (a_cons (m_var 6) a_nil)))))) (fun _ _ _ _ _ => (m_var 7)))
  (ss_one (s_if (t_cmp (r_eq hr) gEq_ns (m_var 4) (m_lst a_nil hNil_len) (nomark _)) (ss_one (s_ret (m_var 5))) ss_nil))))
  (ss_one (s_ret m_non))))))⟩
abbrev st_next_load : Stmt := topS 29
theorem sc_next_load : FnScope ["many", "washes", "least", "most", "some", "best", "load", "mark", "stained", "worst", "one", "lot"] ["many", "washes", "least", "most"] (defScope st_next_load) := ⟨rfl, rfl, rfl, by decide +kernel, rfl, by decide +kernel, by decide +kernel⟩
def f_next_load_1 (g_check_case g_left_of g_sets_of : List D → T D) : MS := (sSeq (sSet 7 (eCall (hCons (eComp [11] (iSeq (eVar 6)) (gNm 11) mYes (eOp (gI iShl) (eC (.int 1)) (eVar 11))) hNil) (g1 sumD)))
  (sSeq (sSet 8 (eCall (hCons (eComp [10] (iSeq (eVar 4)) (gNm 10) (mTest (eOp gNe (eOp (gI iAnd) (eVar 10) (eVar 7)) (eC (.int 0)))) (eVar 10)) hNil) (g1 lenD)))
  (sSeq (sSet 9 (eCall (hCons (eVar 8) (hCons (eOp (gI iSub) (eCall (hCons (eVar 4) hNil) (g1 lenD)) (eVar 8)) hNil)) (gI2 max)))
  (sIf (mOr (mTest (eOp gIs (eVar 5) (eC .non))) (mTest (eOp gLt (eTup (hCons (eVar 9) (hCons (eVar 6) hNil))) (eVar 5)))) (sSet 5 (eTup (hCons (eVar 9) (hCons (eVar 6) hNil)))) sNext))))
def r_next_load_3 (g_check_case g_left_of g_sets_of : List D → T D) : MS := (sRet (eVar 5))
def r_next_load_2 (g_check_case g_left_of g_sets_of : List D → T D) : MS := (sSeq (sFor (iSeq (eDef g_sets_of (hCons (eVar 0) (hCons (eC (.int 1)) (hCons (eVar 0) hNil))))) (gNm 6) (f_next_load_1 g_check_case g_left_of g_sets_of))
  (r_next_load_3 g_check_case g_left_of g_sets_of))
def r_next_load_1 (g_check_case g_left_of g_sets_of : List D → T D) : MS := (sSeq (sPar [4, 5] (hCons (eComp [10] (iSeq (eDef g_left_of (hCons (eVar 0) (hCons (eVar 1) (hCons (eVar 2) (hCons (eVar 3) hNil)))))) (gNm 10) mYes (eCall (hCons (eComp [11] (iSeq (eVar 10)) (gNm 11) mYes (eOp (gI iShl) (eC (.int 1)) (eVar 11))) hNil) (g1 sumD))) (hCons (eC .non) hNil)))
  (r_next_load_2 g_check_case g_left_of g_sets_of))
def b_next_load (g_check_case g_left_of g_sets_of : List D → T D) : MS := (sSeq (sDrop (eDef g_check_case (hCons (eVar 0) (hCons (eVar 1) (hCons (eVar 2) (hCons (eVar 3) hNil))))))
  (r_next_load_1 g_check_case g_left_of g_sets_of))
def m_next_load : MS := b_next_load g_check_case g_left_of g_sets_of
def g_next_load : List D → T D := mkFn 12 4 m_next_load
theorem has_next_load {k : Nat} (B : Bl mg)  (h_check_case : Has Pg w K mg base k "check_case" 4 g_check_case) (h_left_of : Has Pg w K mg base k "left_of" 4 g_left_of) (h_sets_of : Has Pg w K mg base k "sets_of" 3 g_sets_of) (Dn : DefIn K mg "next_load" st_next_load ["many", "washes", "least", "most"]) : Has Pg w K mg base (k + 1) "next_load" 4 g_next_load := by
  obtain ⟨f, fd, Fn, hm, hb⟩ := Dn.ex
  have sc := sc_next_load
  exact ⟨f, fd, _, hm, Fn.kp, hb, rfl, fn_okG Fn sc (fun cdv A outer s H Z hr => (ss_cons (s_expr (m_call h_check_case hr (hCons_len (hCons_len (hCons_len (hCons_len hNil_len)))) (a_cons (m_var 0) (a_cons (m_var 1) (a_cons (m_var 2) (a_cons (m_var 3) a_nil))))))
  (ss_cons (s_par2 sc.nd (a_cons (m_comp [("one", 10)] sc.nd (pi_seqM rfl (m_call h_left_of hr (hCons_len (hCons_len (hCons_len (hCons_len hNil_len)))) (a_cons (m_var 0) (a_cons (m_var 1) (a_cons (m_var 2) (a_cons (m_var 3) a_nil)))))) (blkOk_by (by kernel_rfl)) (fun _ _ _ _ _ => (g_name 10 sc.nd)) (fun _ _ _ _ _ => ts_nil) (fun _ _ _ _ _ => (m_fn (call_sumM rfl) (g1_ns sumD_ns) B.sum (by decide +kernel) (a_cons (m_comp [("lot", 11)] sc.nd (pi_seqM rfl (m_var 10)) (blkOk_by (by kernel_rfl)) (fun _ _ _ _ _ => (g_name 11 sc.nd)) (fun _ _ _ _ _ => ts_nil) (fun _ _ _ _ _ => (m_op op_shlM gI_ns m_int (m_var 11)))) a_nil)))) (a_cons m_non a_nil)) (hCons_len (hCons_len hNil_len)))
  (ss_cons (s_for (g_name 6 sc.nd) (pi_seqM rfl (m_call h_sets_of hr (hCons_len (hCons_len (hCons_len hNil_len))) (a_cons (m_var 0) (a_cons m_int (a_cons (m_var 0) a_nil))))) (ss_cons (s_set sc.nd (m_fn (call_sumM rfl) (g1_ns sumD_ns) B.sum (by decide +kernel) (a_cons (m_comp [("lot", 11)] sc.nd (pi_seqM rfl (m_var 6)) (blkOk_by (by kernel_rfl)) (fun _ _ _ _ _ => (g_name 11 sc.nd)) (fun _ _ _ _ _ => ts_nil) (fun _ _ _ _ _ => (m_op op_shlM gI_ns m_int (m_var 11)))) a_nil)))
  (ss_cons (s_set sc.nd (m_fn call_lenM (g1_ns lenD_ns) B.len (by decide +kernel) (a_cons (m_comp [("one", 10)] sc.nd (pi_seqM rfl (m_var 4)) (blkOk_by (by kernel_rfl)) (fun _ _ _ _ _ => (g_name 10 sc.nd)) (fun _ _ _ _ _ => (ts_one (t_cmp (r_ne hr) gNe_ns (m_op op_andM gI_ns (m_var 10) (m_var 7)) m_int (nomark _)))) (fun _ _ _ _ _ => (m_var 10))) a_nil)))
  (ss_cons (s_set sc.nd (m_fn (call_max2M rfl) gI2_ns B.max (by decide +kernel) (a_cons (m_var 8) (a_cons (m_op op_subM gI_ns (m_fn call_lenM (g1_ns lenD_ns) B.len (by decide +kernel) (a_cons (m_var 4) a_nil)) (m_var 8)) a_nil))))
  (ss_one (s_if (PW.pt (w_or (t_cmp op_isM gIs_ns (m_var 5) m_non (nomark _)) (w_one' (t_cmp (r_lt hr) gLt_ns (m_tup (a_cons (m_var 9) (a_cons (m_var 6) a_nil)) (hCons_len (hCons_len hNil_len))) (m_var 5) (nomark _))))) (ss_one (s_set sc.nd (m_tup (a_cons (m_var 9) (a_cons (m_var 6) a_nil)) (hCons_len (hCons_len hNil_len))))) ss_nil))))))
  (ss_one (s_ret (m_var 5)))))))⟩
abbrev st__law_pot : Stmt := topS 31
theorem sc__law_pot : FnScope ["script", "place", "cell", "own", "small"] ["script", "place"] (defScope st__law_pot) := ⟨rfl, rfl, rfl, by decide +kernel, rfl, by decide +kernel, by decide +kernel⟩
def r__law_pot_3 : MS := (sRet (eLst (hCons (eVar 3) (hCons (eOp (gI iMod) (eCall (hCons (eOp gAdd (eOp gAdd (eOp gMul (eVar 4) (eC (.int 83477))) (eOp gMul (eOp gMul (eC (.int 12289)) (eVar 1)) (eVar 1))) (eC (.int 3571))) hNil) (g1 intD)) (eC (.int 2305843009213693921))) (hCons (eC (.int 0)) hNil)))))
def r__law_pot_2 : MS := (sSeq (sSet 4 (eOp (gI iMod) (eCall (hCons (eVar 2) hNil) (g1 intD)) (eC (.int 2305843009213693951))))
  (r__law_pot_3))
def r__law_pot_1 : MS := (sSeq (sSet 3 (eOp gMul (eOp (gI iMod) (eCall (hCons (eCall (hCons (eVar 2) hNil) (g1 absD)) hNil) (g1 intD)) (eOp (gI iPow) (eOp (gI iPow) (eC (.int 10)) (eC (.int 60))) (eC (.int 5)))) (eCall (hCons (eOp (gI iGe) (eCall (hCons (eVar 2) hNil) (g1 absD)) (eOp (gI iPow) (eC (.int 10)) (eC (.int 18)))) hNil) (g1 intD))))
  (r__law_pot_2))
def b__law_pot : MS := (sSeq (sSet 2 (eIf (mTest (eOp gLt (eVar 1) (eCall (hCons (eVar 0) hNil) (g1 lenD)))) (eOp gIx (eVar 0) (eVar 1)) (eOp gAdd (eOp gAdd (eOp (gI iMod) (eCall (hCons (eCall (hCons (eSl (eVar 0) oNone (oSome (eC (.int 1)))) hNil) (g1 sumD)) hNil) (g1 intD)) (eC (.int 1000253))) (eOp gMul (eC (.int 7331)) (eVar 1))) (eC (.int 4177)))))
  (r__law_pot_1))
def m__law_pot : MS := b__law_pot
def q__law_pot : List D → T D := mkFn 5 2 m__law_pot
theorem has0__law_pot {k : Nat} (B : Bl mg)   (Dn : DefIn K mg "_law_pot" st__law_pot ["script", "place"]) : Has Pg w K mg base (k + 1) "_law_pot" 2 q__law_pot := by
  obtain ⟨f, fd, Fn, hm, hb⟩ := Dn.ex
  have sc := sc__law_pot
  exact ⟨f, fd, _, hm, Fn.kp, hb, rfl, fn_okG Fn sc (fun cdv A outer s H Z hr => (ss_cons (s_set sc.nd (m_if (t_cmp (r_lt hr) gLt_ns (m_var 1) (m_fn call_lenM (g1_ns lenD_ns) B.len (by decide +kernel) (a_cons (m_var 0) a_nil)) (nomark _)) (m_ix (m_var 0) (m_var 1)) (m_op op_addM gAdd_ns (m_op op_addM gAdd_ns (m_op op_modM gI_ns (m_ty call_intM (g1_ns intD_ns) B.int (by decide +kernel) (a_cons (m_fn (call_sumM rfl) (g1_ns sumD_ns) B.sum (by decide +kernel) (a_cons (m_sl (m_var 0) o_none (o_some m_int)) a_nil)) a_nil)) m_int) (m_op op_mulM gMul_ns m_int (m_var 1))) m_int)))
  (ss_cons (s_set sc.nd (m_op op_mulM gMul_ns (m_op op_modM gI_ns (m_ty call_intM (g1_ns intD_ns) B.int (by decide +kernel) (a_cons (m_fn call_absM (g1_ns absD_ns) B.abs (by decide +kernel) (a_cons (m_var 2) a_nil)) a_nil)) (m_op op_powM gI_ns (m_op op_powM gI_ns m_int m_int) m_int)) (m_ty call_intM (g1_ns intD_ns) B.int (by decide +kernel) (a_cons (m_cmp op_geM gI_ns (m_fn call_absM (g1_ns absD_ns) B.abs (by decide +kernel) (a_cons (m_var 2) a_nil)) (m_op op_powM gI_ns m_int m_int) (nomark _)) a_nil))))
  (ss_cons (s_set sc.nd (m_op op_modM gI_ns (m_ty call_intM (g1_ns intD_ns) B.int (by decide +kernel) (a_cons (m_var 2) a_nil)) m_int))
  (ss_one (s_ret (m_lst (a_cons (m_var 3) (a_cons (m_op op_modM gI_ns (m_ty call_intM (g1_ns intD_ns) B.int (by decide +kernel) (a_cons (m_op op_addM gAdd_ns (m_op op_addM gAdd_ns (m_op op_mulM gMul_ns (m_var 4) m_int) (m_op op_mulM gMul_ns (m_op op_mulM gMul_ns m_int (m_var 1)) (m_var 1))) m_int) a_nil)) m_int) (a_cons m_int a_nil))) (hCons_len (hCons_len (hCons_len hNil_len))))))))))⟩
abbrev g__law_pot : List D → T D := potG
abbrev st__law_take : Stmt := topS 32
theorem sc__law_take : FnScope ["pot", "upto", "digit", "prime", "mixture"] ["pot", "upto"] (defScope st__law_take) := ⟨rfl, rfl, rfl, by decide +kernel, rfl, by decide +kernel, by decide +kernel⟩
abbrev g__law_take : List D → T D := takeG
theorem has__law_take {k : Nat} (B : Bl mg) (Dn : DefIn K mg "_law_take" st__law_take ["pot", "upto"]) : Has Pg w K mg base (k + 1) "_law_take" 2 g__law_take := by
  obtain ⟨f, fd, Fn, hm, hb⟩ := Dn.ex
  have sc := sc__law_take
  refine ⟨f, fd, _, hm, Fn.kp, hb, rfl, fnG_of Fn sc (fun vs H Q E h => ?_) (fun cdv A outer s H vs Q hr h => ?_)⟩
  · obtain ⟨_, _, _, _, hl, _⟩ := h
    exact hl
  · exact ⟨takeR K, pss_cons (ps_if (pt_cmpR op_gt (pe_ix ix_list (pv 0) pe_int (fun _ _ => rfl)) pe_int (nomark _)) (pss_cons (ps_set sc.nd rfl (.inl rfl) (pe_op op_mod (pe_callTy call_int1 (by rfl) B.int (by decide +kernel) (pa_cons (pe_ix ix_list (pv 0) pe_int (fun _ _ => rfl)) pa_nil)) (pv 1))) (pss_cons (ps_asg (pe_op op_fdiv (pe_ix ix_list (pv 0) pe_int (fun _ _ => rfl)) (pv 1)) (pg_sub (pv 0) pe_int set_list)) (pss_one (ps_ret (pv 2))))) pss_nil)
      (pss_cons (ps_asg (pe_op op_add (pe_ix ix_list (pv 0) pe_int (fun _ _ => rfl)) pe_int) (pg_sub (pv 0) pe_int set_list))
      (pss_cons (ps_set sc.nd rfl (.inl rfl) (pe_ix ix_list (pe_lst (pa_cons pe_int (pa_cons pe_int (pa_cons pe_int (pa_cons pe_int (pa_cons pe_int pa_nil)))))) (pe_op op_mod (pe_callTy call_int1 (by rfl) B.int (by decide +kernel) (pa_cons (pe_ix ix_list (pv 0) pe_int (fun _ _ => rfl)) pa_nil)) pe_int) (fun _ _ => rfl)))
      (pss_cons (ps_set sc.nd rfl (.inl rfl) (pe_op op_mod (pe_callTy call_int1 (by rfl) B.int (by decide +kernel) (pa_cons (pe_op op_powB (pe_callTy call_int1 (by rfl) B.int (by decide +kernel) (pa_cons (pe_op op_add (pe_op op_add (pe_ix ix_list (pv 0) pe_int (fun _ _ => rfl)) (pe_op op_mulW (pe_op op_mulW pe_int (pe_ix ix_list (pv 0) pe_int (fun _ _ => rfl))) (pe_ix ix_list (pv 0) pe_int (fun _ _ => rfl)))) pe_int) pa_nil)) pe_int) pa_nil)) (pv 3)))
      (pss_cons (ps_set sc.nd rfl (.inl rfl) (pe_op op_mod (pe_callTy call_int1 (by rfl) B.int (by decide +kernel) (pa_cons (pe_op op_mulW (pv 4) (pe_op op_add (pe_op op_mod (pe_callTy call_int1 (by rfl) B.int (by decide +kernel) (pa_cons (pv 4) pa_nil)) pe_int) (pe_op op_mulW pe_int (pe_ix ix_list (pv 0) pe_int (fun _ _ => rfl))))) pa_nil)) pe_int))
      (pss_one (ps_ret (pe_op op_mod (pe_callTy call_int1 (by rfl) B.int (by decide +kernel) (pa_cons (pe_op op_fdiv (pv 4) pe_int) pa_nil)) (pv 1)))))))), take_read rfl h⟩
abbrev st__law_cells : Stmt := topS 33
theorem sc__law_cells : FnScope ["script", "most"] ["script", "most"] (defScope st__law_cells) := ⟨rfl, rfl, rfl, by decide +kernel, rfl, by decide +kernel, by decide +kernel⟩
def b__law_cells : MS := (sRet (eRg1 mkL (eCall (hCons (eC (.int 1)) (hCons (eCall (hCons (eVar 1) (hCons (eCall (hCons (eVar 0) hNil) (g1 lenD)) hNil)) (gI2 min)) hNil)) (gI2 max))))
def m__law_cells : MS := b__law_cells
def g__law_cells : List D → T D := mkFn 2 2 m__law_cells
theorem has__law_cells {k : Nat} (B : Bl mg)   (Dn : DefIn K mg "_law_cells" st__law_cells ["script", "most"]) : Has Pg w K mg base (k + 1) "_law_cells" 2 g__law_cells := by
  obtain ⟨f, fd, Fn, hm, hb⟩ := Dn.ex
  have sc := sc__law_cells
  exact ⟨f, fd, _, hm, Fn.kp, hb, rfl, fn_okG Fn sc (fun cdv A outer s H Z hr => (ss_one (s_ret (m_listRg1 B.list B.range (m_fn (call_max2M rfl) gI2_ns B.max (by decide +kernel) (a_cons m_int (a_cons (m_fn (call_min2M rfl) gI2_ns B.min (by decide +kernel) (a_cons (m_var 1) (a_cons (m_fn call_lenM (g1_ns lenD_ns) B.len (by decide +kernel) (a_cons (m_var 0) a_nil)) a_nil))) a_nil)))))))⟩
abbrev st__law_some : Stmt := topS 34
theorem sc__law_some : FnScope ["pot", "pool", "many", "rests", "found", "lap"] ["pot", "pool", "many"] (defScope st__law_some) := ⟨rfl, rfl, rfl, by decide +kernel, rfl, by decide +kernel, by decide +kernel⟩
def f__law_some_1 (g__law_take : List D → T D) : MS := (sDrop (eMut gAppend 4 (hCons (eMut gPop1 3 (hCons (eDef g__law_take (hCons (eVar 0) (hCons (eCall (hCons (eVar 3) hNil) (g1 lenD)) hNil))) hNil)) hNil)))
def b__law_some (g__law_take : List D → T D) : MS := (sSeq (sPar [3, 4] (hCons (eCall (hCons (eVar 1) hNil) (g1 listD)) (hCons (eLst hNil) hNil)))
  (sSeq (sFor (iRng (hCons (eVar 2) hNil)) (gNm 5) (f__law_some_1 g__law_take))
  (sRet (eVar 4))))
def m__law_some : MS := b__law_some g__law_take
def g__law_some : List D → T D := mkFn 6 3 m__law_some
theorem has__law_some {k : Nat} (B : Bl mg)  (h__law_take : Has Pg w K mg base k "_law_take" 2 g__law_take) (Dn : DefIn K mg "_law_some" st__law_some ["pot", "pool", "many"]) : Has Pg w K mg base (k + 1) "_law_some" 3 g__law_some := by
  obtain ⟨f, fd, Fn, hm, hb⟩ := Dn.ex
  have sc := sc__law_some
  exact ⟨f, fd, _, hm, Fn.kp, hb, rfl, fn_okG Fn sc (fun cdv A outer s H Z hr => (ss_cons (s_par2 sc.nd (a_cons (m_ty call_listM (g1_ns listD_ns) B.list (by decide +kernel) (a_cons (m_var 1) a_nil)) (a_cons (m_lst a_nil hNil_len) a_nil)) (hCons_len (hCons_len hNil_len)))
  (ss_cons (s_for (g_name 5 sc.nd) (pi_rng1M rfl (by rfl) B.range (a_cons (m_var 2) a_nil) (hCons_len hNil_len)) (ss_one (s_expr (m_mut op_append mt_append PySem.F.slot_list_append PySem.F.type_list_append (pv 4) (a_cons (m_mut op_pop1 mt_popAt PySem.F.slot_list_pop PySem.F.type_list_pop (pv 3) (a_cons (m_call h__law_take hr (hCons_len (hCons_len hNil_len)) (a_cons (m_var 0) (a_cons (m_fn call_lenM (g1_ns lenD_ns) B.len (by decide +kernel) (a_cons (m_var 3) a_nil)) a_nil))) a_nil)) a_nil)))))
  (ss_one (s_ret (m_var 4))))))⟩
abbrev st__law_merged : Stmt := topS 35
theorem sc__law_merged : FnScope ["pot", "one", "other", "found", "left", "right", "lap"] ["pot", "one", "other"] (defScope st__law_merged) := ⟨rfl, rfl, rfl, by decide +kernel, rfl, by decide +kernel, by decide +kernel⟩
def f__law_merged_1 (g__law_take : List D → T D) : MS := (sIf (mOr (mTest (eOp gEq (eVar 5) (eLst hNil))) (mAnd (mTest (eOp gNe (eVar 4) (eLst hNil))) (mTest (eOp gEq (eDef g__law_take (hCons (eVar 0) (hCons (eC (.int 2)) hNil))) (eC (.int 0)))))) (sDrop (eMut gAppend 3 (hCons (eMut gPop1 4 (hCons (eC (.int 0)) hNil)) hNil))) (sDrop (eMut gAppend 3 (hCons (eMut gPop1 5 (hCons (eC (.int 0)) hNil)) hNil))))
def b__law_merged (g__law_take : List D → T D) : MS := (sSeq (sPar [3, 4, 5] (hCons (eLst hNil) (hCons (eCall (hCons (eVar 1) hNil) (g1 listD)) (hCons (eCall (hCons (eVar 2) hNil) (g1 listD)) hNil))))
  (sSeq (sFor (iRng (hCons (eOp gAdd (eCall (hCons (eVar 1) hNil) (g1 lenD)) (eCall (hCons (eVar 2) hNil) (g1 lenD))) hNil)) (gNm 6) (f__law_merged_1 g__law_take))
  (sRet (eVar 3))))
def m__law_merged : MS := b__law_merged g__law_take
def g__law_merged : List D → T D := mkFn 7 3 m__law_merged
theorem has__law_merged {k : Nat} (B : Bl mg)  (h__law_take : Has Pg w K mg base k "_law_take" 2 g__law_take) (Dn : DefIn K mg "_law_merged" st__law_merged ["pot", "one", "other"]) : Has Pg w K mg base (k + 1) "_law_merged" 3 g__law_merged := by
  obtain ⟨f, fd, Fn, hm, hb⟩ := Dn.ex
  have sc := sc__law_merged
  exact ⟨f, fd, _, hm, Fn.kp, hb, rfl, fn_okG Fn sc (fun cdv A outer s H Z hr => (ss_cons (s_par3 sc.nd (a_cons (m_lst a_nil hNil_len) (a_cons (m_ty call_listM (g1_ns listD_ns) B.list (by decide +kernel) (a_cons (m_var 1) a_nil)) (a_cons (m_ty call_listM (g1_ns listD_ns) B.list (by decide +kernel) (a_cons (m_var 2) a_nil)) a_nil))) (hCons_len (hCons_len (hCons_len hNil_len))))
  (ss_cons (s_for (g_name 6 sc.nd) (pi_rng1M rfl (by rfl) B.range (a_cons (m_op op_addM gAdd_ns (m_fn call_lenM (g1_ns lenD_ns) B.len (by decide +kernel) (a_cons (m_var 1) a_nil)) (m_fn call_lenM (g1_ns lenD_ns) B.len (by decide +kernel) (a_cons (m_var 2) a_nil))) a_nil) (hCons_len hNil_len)) (ss_one (s_if (PW.pt (w_or (t_cmp (r_eq hr) gEq_ns (m_var 5) (m_lst a_nil hNil_len) (nomark _)) (w_one' (PW.pt (w_and (t_cmp (r_ne hr) gNe_ns (m_var 4) (m_lst a_nil hNil_len) (nomark _)) (w_one (t_cmp (r_eq hr) gEq_ns (m_call h__law_take hr (hCons_len (hCons_len hNil_len)) (a_cons (m_var 0) (a_cons m_int a_nil))) m_int (nomark _)))))))) (ss_one (s_expr (m_mut op_append mt_append PySem.F.slot_list_append PySem.F.type_list_append (pv 3) (a_cons (m_mut op_pop1 mt_popAt PySem.F.slot_list_pop PySem.F.type_list_pop (pv 4) (a_cons m_int a_nil)) a_nil)))) (ss_one (s_expr (m_mut op_append mt_append PySem.F.slot_list_append PySem.F.type_list_append (pv 3) (a_cons (m_mut op_pop1 mt_popAt PySem.F.slot_list_pop PySem.F.type_list_pop (pv 5) (a_cons m_int a_nil)) a_nil)))))))
  (ss_one (s_ret (m_var 3))))))⟩
abbrev st__law_beside : Stmt := topS 36
theorem sc__law_beside : FnScope ["pot", "one", "other", "at"] ["pot", "one", "other"] (defScope st__law_beside) := ⟨rfl, rfl, rfl, by decide +kernel, rfl, by decide +kernel, by decide +kernel⟩
def b__law_beside (g__law_merged : List D → T D) : MS := (sRet (eDef g__law_merged (hCons (eVar 0) (hCons (eComp [3] (iRng (hCons (eVar 1) hNil)) (gNm 3) mYes (eTup (hCons (eC (.int 0)) (hCons (eVar 3) hNil)))) (hCons (eComp [3] (iRng (hCons (eVar 2) hNil)) (gNm 3) mYes (eTup (hCons (eC (.int 1)) (hCons (eVar 3) hNil)))) hNil)))))
def m__law_beside : MS := b__law_beside g__law_merged
def g__law_beside : List D → T D := mkFn 4 3 m__law_beside
theorem has__law_beside {k : Nat} (B : Bl mg)  (h__law_merged : Has Pg w K mg base k "_law_merged" 3 g__law_merged) (Dn : DefIn K mg "_law_beside" st__law_beside ["pot", "one", "other"]) : Has Pg w K mg base (k + 1) "_law_beside" 3 g__law_beside := by
  obtain ⟨f, fd, Fn, hm, hb⟩ := Dn.ex
  have sc := sc__law_beside
  exact ⟨f, fd, _, hm, Fn.kp, hb, rfl, fn_okG Fn sc (fun cdv A outer s H Z hr => (ss_one (s_ret (m_call h__law_merged hr (hCons_len (hCons_len (hCons_len hNil_len))) (a_cons (m_var 0) (a_cons (m_comp [("at", 3)] sc.nd (pi_rng1M rfl (by rfl) B.range (a_cons (m_var 1) a_nil) (hCons_len hNil_len)) (blkOk_by (by kernel_rfl)) (fun _ _ _ _ _ => (g_name 3 sc.nd)) (fun _ _ _ _ _ => ts_nil) (fun _ _ _ _ _ => (m_tup (a_cons m_int (a_cons (m_var 3) a_nil)) (hCons_len (hCons_len hNil_len))))) (a_cons (m_comp [("at", 3)] sc.nd (pi_rng1M rfl (by rfl) B.range (a_cons (m_var 2) a_nil) (hCons_len hNil_len)) (blkOk_by (by kernel_rfl)) (fun _ _ _ _ _ => (g_name 3 sc.nd)) (fun _ _ _ _ _ => ts_nil) (fun _ _ _ _ _ => (m_tup (a_cons m_int (a_cons (m_var 3) a_nil)) (hCons_len (hCons_len hNil_len))))) a_nil)))))))⟩
abbrev st__law_put : Stmt := topS 37
theorem sc__law_put : FnScope ["order", "hall", "lot", "at"] ["order", "hall", "lot"] (defScope st__law_put) := ⟨rfl, rfl, rfl, by decide +kernel, rfl, by decide +kernel, by decide +kernel⟩
def b__law_put : MS := (sRet (eCall (hCons (eCall (hCons (eComp [3] (iSeq (eVar 2)) (gNm 3) mYes (eMt gIdx (eVar 0) (hCons (eTup (hCons (eVar 1) (hCons (eVar 3) hNil))) hNil))) hNil) (g1 sortedD)) hNil) (g1 tupleD)))
def m__law_put : MS := b__law_put
def g__law_put : List D → T D := mkFn 4 3 m__law_put
theorem has__law_put {k : Nat} (B : Bl mg)   (Dn : DefIn K mg "_law_put" st__law_put ["order", "hall", "lot"]) : Has Pg w K mg base (k + 1) "_law_put" 3 g__law_put := by
  obtain ⟨f, fd, Fn, hm, hb⟩ := Dn.ex
  have sc := sc__law_put
  exact ⟨f, fd, _, hm, Fn.kp, hb, rfl, fn_okG Fn sc (fun cdv A outer s H Z hr => (ss_one (s_ret (m_ty call_tupleM (g1_ns tupleD_ns) B.tuple (by decide +kernel) (a_cons (m_fn (r_sorted hr) (g1_ns sortedD_ns) B.sorted (by decide +kernel) (a_cons (m_comp [("at", 3)] sc.nd (pi_seqM rfl (m_var 2)) (blkOk_by (by kernel_rfl)) (fun _ _ _ _ _ => (g_name 3 sc.nd)) (fun _ _ _ _ _ => ts_nil) (fun _ _ _ _ _ => (m_mt (r_idx hr) gIdx_ns PySem.F.slot_list_index PySem.F.type_list_index (m_var 0) (a_cons (m_tup (a_cons (m_var 1) (a_cons (m_var 3) a_nil)) (hCons_len (hCons_len hNil_len))) a_nil)))) a_nil)) a_nil)))))⟩
abbrev st__law_washes : Stmt := topS 38
theorem sc__law_washes : FnScope ["pot", "many", "is_wrong", "ran", "found", "lap", "load", "at", "lot"] ["pot", "many", "is_wrong"] (defScope st__law_washes) := ⟨rfl, rfl, rfl, by decide +kernel, rfl, by decide +kernel, by decide +kernel⟩
def f__law_washes_1 (g__law_some g__law_take : List D → T D) : MS := (sSeq (sSet 6 (eCall (hCons (eCall (hCons (eComp [8] (iSeq (eDef g__law_some (hCons (eVar 0) (hCons (eRg1 mkL (eVar 1)) (hCons (eOp gAdd (eC (.int 1)) (eCall (hCons (eDef g__law_take (hCons (eVar 0) (hCons (eVar 1) hNil))) hNil) (g1 intD))) hNil))))) (gNm 8) mYes (eCall (hCons (eVar 8) hNil) (g1 intD))) hNil) (g1 sortedD)) hNil) (g1 tupleD)))
  (sDrop (eMut gAppend 4 (hCons (eTup (hCons (eVar 6) (hCons (eCall (hCons (eComp [8] (iSeq (eVar 6)) (gNm 8) mYes (eOp gIn (eVar 8) (eVar 3))) hNil) (g1 anyD)) hNil))) hNil))))
def r__law_washes_4 (g__law_some g__law_take : List D → T D) : MS := (sRet (eVar 4))
def r__law_washes_3 (g__law_some g__law_take : List D → T D) : MS := (sSeq (sIf (mAnd (mTest (eVar 2)) (mTest (eOp gNe (eVar 4) (eLst hNil)))) (sSeq (sSet 7 (eCall (hCons (eDef g__law_take (hCons (eVar 0) (hCons (eCall (hCons (eVar 4) hNil) (g1 lenD)) hNil))) hNil) (g1 intD)))
  (sStore 4 (eVar 7) (eTup (hCons (eOp gIx (eOp gIx (eVar 4) (eVar 7)) (eC (.int 0))) (hCons (eNotV (eOp gIx (eOp gIx (eVar 4) (eVar 7)) (eC (.int 1)))) hNil))))) sNext)
  (r__law_washes_4 g__law_some g__law_take))
def r__law_washes_2 (g__law_some g__law_take : List D → T D) : MS := (sSeq (sFor (iRng (hCons (eDef g__law_take (hCons (eVar 0) (hCons (eC (.int 7)) hNil))) hNil)) (gNm 5) (f__law_washes_1 g__law_some g__law_take))
  (r__law_washes_3 g__law_some g__law_take))
def r__law_washes_1 (g__law_some g__law_take : List D → T D) : MS := (sSeq (sSet 4 (eLst hNil))
  (r__law_washes_2 g__law_some g__law_take))
def b__law_washes (g__law_some g__law_take : List D → T D) : MS := (sSeq (sSet 3 (eComp [8] (iSeq (eDef g__law_some (hCons (eVar 0) (hCons (eRg1 mkL (eVar 1)) (hCons (eCall (hCons (eDef g__law_take (hCons (eVar 0) (hCons (eOp gAdd (eCall (hCons (eC (.int 2)) (hCons (eVar 1) hNil)) (gI2 min)) (eC (.int 1))) hNil))) hNil) (g1 intD)) hNil))))) (gNm 8) mYes (eCall (hCons (eVar 8) hNil) (g1 intD))))
  (r__law_washes_1 g__law_some g__law_take))
def m__law_washes : MS := b__law_washes g__law_some g__law_take
def g__law_washes : List D → T D := mkFn 9 3 m__law_washes
theorem has__law_washes {k : Nat} (B : Bl mg)  (h__law_some : Has Pg w K mg base k "_law_some" 3 g__law_some) (h__law_take : Has Pg w K mg base k "_law_take" 2 g__law_take) (Dn : DefIn K mg "_law_washes" st__law_washes ["pot", "many", "is_wrong"]) : Has Pg w K mg base (k + 1) "_law_washes" 3 g__law_washes := by
  obtain ⟨f, fd, Fn, hm, hb⟩ := Dn.ex
  have sc := sc__law_washes
  exact ⟨f, fd, _, hm, Fn.kp, hb, rfl, fn_okG Fn sc (fun cdv A outer s H Z hr => (ss_cons (s_set sc.nd (m_comp [("lot", 8)] sc.nd (pi_seqM rfl (m_call h__law_some hr (hCons_len (hCons_len (hCons_len hNil_len))) (a_cons (m_var 0) (a_cons (m_listRg1 B.list B.range (m_var 1)) (a_cons (m_ty call_intM (g1_ns intD_ns) B.int (by decide +kernel) (a_cons (m_call h__law_take hr (hCons_len (hCons_len hNil_len)) (a_cons (m_var 0) (a_cons (m_op op_addM gAdd_ns (m_fn (call_min2M rfl) gI2_ns B.min (by decide +kernel) (a_cons m_int (a_cons (m_var 1) a_nil))) m_int) a_nil))) a_nil)) a_nil))))) (blkOk_by (by kernel_rfl)) (fun _ _ _ _ _ => (g_name 8 sc.nd)) (fun _ _ _ _ _ => ts_nil) (fun _ _ _ _ _ => (m_ty call_intM (g1_ns intD_ns) B.int (by decide +kernel) (a_cons (m_var 8) a_nil)))))
  (ss_cons (s_set sc.nd (m_lst a_nil hNil_len))
  (ss_cons (s_for (g_name 5 sc.nd) (pi_rng1M rfl (by rfl) B.range (a_cons (m_call h__law_take hr (hCons_len (hCons_len hNil_len)) (a_cons (m_var 0) (a_cons m_int a_nil))) a_nil) (hCons_len hNil_len)) (ss_cons (s_set sc.nd (m_ty call_tupleM (g1_ns tupleD_ns) B.tuple (by decide +kernel) (a_cons (m_fn (r_sorted hr) (g1_ns sortedD_ns) B.sorted (by decide +kernel) (a_cons (m_comp [("lot", 8)] sc.nd (pi_seqM rfl (m_call h__law_some hr (hCons_len (hCons_len (hCons_len hNil_len))) (a_cons (m_var 0) (a_cons (m_listRg1 B.list B.range (m_var 1)) (a_cons (m_op op_addM gAdd_ns m_int (m_ty call_intM (g1_ns intD_ns) B.int (by decide +kernel) (a_cons (m_call h__law_take hr (hCons_len (hCons_len hNil_len)) (a_cons (m_var 0) (a_cons (m_var 1) a_nil))) a_nil))) a_nil))))) (blkOk_by (by kernel_rfl)) (fun _ _ _ _ _ => (g_name 8 sc.nd)) (fun _ _ _ _ _ => ts_nil) (fun _ _ _ _ _ => (m_ty call_intM (g1_ns intD_ns) B.int (by decide +kernel) (a_cons (m_var 8) a_nil)))) a_nil)) a_nil)))
  (ss_one (s_expr (m_mut op_append mt_append PySem.F.slot_list_append PySem.F.type_list_append (pv 4) (a_cons (m_tup (a_cons (m_var 6) (a_cons (m_fn (call_anyM rfl) (g1_ns anyD_ns) B.any (by decide +kernel) (a_cons (m_comp [("lot", 8)] sc.nd (pi_seqM rfl (m_var 6)) (blkOk_by (by kernel_rfl)) (fun _ _ _ _ _ => (g_name 8 sc.nd)) (fun _ _ _ _ _ => ts_nil) (fun _ _ _ _ _ => (m_cmp (r_in hr) gIn_ns (m_var 8) (m_var 3) (by with_unfolding_all rfl)))) a_nil)) a_nil)) (hCons_len (hCons_len hNil_len))) a_nil))))))
  (ss_cons (s_if (PW.pt (w_and (t_val (m_var 2)) (w_one (t_cmp (r_ne hr) gNe_ns (m_var 4) (m_lst a_nil hNil_len) (nomark _))))) (ss_cons (s_set sc.nd (m_ty call_intM (g1_ns intD_ns) B.int (by decide +kernel) (a_cons (m_call h__law_take hr (hCons_len (hCons_len hNil_len)) (a_cons (m_var 0) (a_cons (m_fn call_lenM (g1_ns lenD_ns) B.len (by decide +kernel) (a_cons (m_var 4) a_nil)) a_nil))) a_nil)))
  (ss_one (s_store (pv 4) (m_var 7) (m_tup (a_cons (m_ix (m_ix (m_var 4) (m_var 7)) m_int) (a_cons (m_not (m_ix (m_ix (m_var 4) (m_var 7)) m_int)) a_nil)) (hCons_len (hCons_len hNil_len)))))) ss_nil)
  (ss_one (s_ret (m_var 4))))))))⟩
abbrev st__law_sets : Stmt := topS 39
theorem sc__law_sets : FnScope ["many", "most", "found", "lot", "some"] ["many", "most"] (defScope st__law_sets) := ⟨rfl, rfl, rfl, by decide +kernel, rfl, by decide +kernel, by decide +kernel⟩
def f__law_sets_1 : MS := (sDrop (eMut gExtend 2 (hCons (eComp [4] (iSeq (eCall (hCons (eVar 2) hNil) (g1 listD))) (gNm 4) (mTest (eOp gLt (eCall (hCons (eVar 4) hNil) (g1 lenD)) (eVar 1))) (eOp gAdd (eVar 4) (eTup (hCons (eVar 3) hNil)))) hNil)))
def b__law_sets : MS := (sSeq (sSet 2 (eLst (hCons (eTup hNil) hNil)))
  (sSeq (sFor (iRng (hCons (eVar 0) hNil)) (gNm 3) (f__law_sets_1))
  (sRet (eCall (hCons (eVar 2) hNil) (g1 sortedD)))))
def m__law_sets : MS := b__law_sets
def g__law_sets : List D → T D := mkFn 5 2 m__law_sets
theorem has__law_sets {k : Nat} (B : Bl mg)   (Dn : DefIn K mg "_law_sets" st__law_sets ["many", "most"]) : Has Pg w K mg base (k + 1) "_law_sets" 2 g__law_sets := by
  obtain ⟨f, fd, Fn, hm, hb⟩ := Dn.ex
  have sc := sc__law_sets
  exact ⟨f, fd, _, hm, Fn.kp, hb, rfl, fn_okG Fn sc (fun cdv A outer s H Z hr => (ss_cons (s_set sc.nd (m_lst (a_cons (m_tup a_nil hNil_len) a_nil) (hCons_len hNil_len)))
  (ss_cons (s_for (g_name 3 sc.nd) (pi_rng1M rfl (by rfl) B.range (a_cons (m_var 0) a_nil) (hCons_len hNil_len)) (ss_one (s_expr (m_mut op_extend mt_extend PySem.F.slot_list_extend PySem.F.type_list_extend (pv 2) (a_cons (m_comp [("some", 4)] sc.nd (pi_seqM rfl (m_ty call_listM (g1_ns listD_ns) B.list (by decide +kernel) (a_cons (m_var 2) a_nil))) (blkOk_by (by kernel_rfl)) (fun _ _ _ _ _ => (g_name 4 sc.nd)) (fun _ _ _ _ _ => (ts_one (t_cmp (r_lt hr) gLt_ns (m_fn call_lenM (g1_ns lenD_ns) B.len (by decide +kernel) (a_cons (m_var 4) a_nil)) (m_var 1) (nomark _)))) (fun _ _ _ _ _ => (m_op op_addM gAdd_ns (m_var 4) (m_tup (a_cons (m_var 3) a_nil) (hCons_len hNil_len))))) a_nil)))))
  (ss_one (s_ret (m_fn (r_sorted hr) (g1_ns sortedD_ns) B.sorted (by decide +kernel) (a_cons (m_var 2) a_nil)))))))⟩
abbrev st__law_may : Stmt := topS 40
theorem sc__law_may : FnScope ["many", "washes", "found", "some", "load", "stained", "lot"] ["many", "washes"] (defScope st__law_may) := ⟨rfl, rfl, rfl, by decide +kernel, rfl, by decide +kernel, by decide +kernel⟩
def f__law_may_1 (g__law_sets : List D → T D) : MS := (sIf (mTest (eCall (hCons (eComp [4, 5] (iSeq (eVar 1)) (gTp 2 (gsCons (gNm 4) (gsCons (gNm 5) gsNil))) mYes (eOp gEq (eCall (hCons (eComp [6] (iSeq (eVar 4)) (gNm 6) mYes (eOp gIn (eVar 6) (eVar 3))) hNil) (g1 anyD)) (eVar 5))) hNil) (g1 allD))) (sDrop (eMut gAppend 2 (hCons (eVar 3) hNil))) sNext)
def b__law_may (g__law_sets : List D → T D) : MS := (sSeq (sSet 2 (eLst hNil))
  (sSeq (sFor (iSeq (eDef g__law_sets (hCons (eVar 0) (hCons (eCall (hCons (eC (.int 3)) (hCons (eVar 0) hNil)) (gI2 min)) hNil)))) (gNm 3) (f__law_may_1 g__law_sets))
  (sRet (eVar 2))))
def m__law_may : MS := b__law_may g__law_sets
def g__law_may : List D → T D := mkFn 7 2 m__law_may
theorem has__law_may {k : Nat} (B : Bl mg)  (h__law_sets : Has Pg w K mg base k "_law_sets" 2 g__law_sets) (Dn : DefIn K mg "_law_may" st__law_may ["many", "washes"]) : Has Pg w K mg base (k + 1) "_law_may" 2 g__law_may := by
  obtain ⟨f, fd, Fn, hm, hb⟩ := Dn.ex
  have sc := sc__law_may
  exact ⟨f, fd, _, hm, Fn.kp, hb, rfl, fn_okG Fn sc (fun cdv A outer s H Z hr => (ss_cons (s_set sc.nd (m_lst a_nil hNil_len))
  (ss_cons (s_for (g_name 3 sc.nd) (pi_seqM rfl (m_call h__law_sets hr (hCons_len (hCons_len hNil_len)) (a_cons (m_var 0) (a_cons (m_fn (call_min2M rfl) gI2_ns B.min (by decide +kernel) (a_cons m_int (a_cons (m_var 0) a_nil))) a_nil)))) (ss_one (s_if (t_val (m_fn (call_allM rfl) (g1_ns allD_ns) B.all (by decide +kernel) (a_cons (m_comp [("load", 4), ("stained", 5)] sc.nd (pi_seqM rfl (m_var 1)) (blkOk_by (by kernel_rfl)) (fun _ _ _ _ _ => (g_tup (gs_cons (g_name 4 sc.nd) (gs_cons (g_name 5 sc.nd) gs_nil)))) (fun _ _ _ _ _ => ts_nil) (fun _ _ _ _ _ => (m_cmp (r_eq hr) gEq_ns (m_fn (call_anyM rfl) (g1_ns anyD_ns) B.any (by decide +kernel) (a_cons (m_comp [("lot", 6)] sc.nd (pi_seqM rfl (m_var 4)) (blkOk_by (by kernel_rfl)) (fun _ _ _ _ _ => (g_name 6 sc.nd)) (fun _ _ _ _ _ => ts_nil) (fun _ _ _ _ _ => (m_cmp (r_in hr) gIn_ns (m_var 6) (m_var 3) (by with_unfolding_all rfl)))) a_nil)) (m_var 5) (nomark _)))) a_nil))) (ss_one (s_expr (m_mut op_append mt_append PySem.F.slot_list_append PySem.F.type_list_append (pv 2) (a_cons (m_var 3) a_nil)))) ss_nil)))
  (ss_one (s_ret (m_var 2))))))⟩
abbrev st__law_both : Stmt := topS 41
theorem sc__law_both : FnScope ["order", "mays", "least", "most", "found", "one", "other"] ["order", "mays", "least", "most"] (defScope st__law_both) := ⟨rfl, rfl, rfl, by decide +kernel, rfl, by decide +kernel, by decide +kernel⟩
def f__law_both_1 (g__law_put : List D → T D) : MS := (sIf (mTest (eChain (gI iLe) (gI iLe) (eVar 2) (eOp gAdd (eCall (hCons (eVar 5) hNil) (g1 lenD)) (eCall (hCons (eVar 6) hNil) (g1 lenD))) (eVar 3))) (sDrop (eMut gAppend 4 (hCons (eCall (hCons (eCall (hCons (eOp gAdd (eDef g__law_put (hCons (eVar 0) (hCons (eC (.int 0)) (hCons (eVar 5) hNil)))) (eDef g__law_put (hCons (eVar 0) (hCons (eC (.int 1)) (hCons (eVar 6) hNil))))) hNil) (g1 sortedD)) hNil) (g1 tupleD)) hNil))) sNext)
def f__law_both_2 (g__law_put : List D → T D) : MS := (sFor (iSeq (eOp gIx (eVar 1) (eC (.int 1)))) (gNm 6) (f__law_both_1 g__law_put))
def b__law_both (g__law_put : List D → T D) : MS := (sSeq (sSet 4 (eLst hNil))
  (sSeq (sFor (iSeq (eOp gIx (eVar 1) (eC (.int 0)))) (gNm 5) (f__law_both_2 g__law_put))
  (sRet (eCall (hCons (eVar 4) hNil) (g1 sortedD)))))
def m__law_both : MS := b__law_both g__law_put
def g__law_both : List D → T D := mkFn 7 4 m__law_both
theorem has__law_both {k : Nat} (B : Bl mg)  (h__law_put : Has Pg w K mg base k "_law_put" 3 g__law_put) (Dn : DefIn K mg "_law_both" st__law_both ["order", "mays", "least", "most"]) : Has Pg w K mg base (k + 1) "_law_both" 4 g__law_both := by
  obtain ⟨f, fd, Fn, hm, hb⟩ := Dn.ex
  have sc := sc__law_both
  exact ⟨f, fd, _, hm, Fn.kp, hb, rfl, fn_okG Fn sc (fun cdv A outer s H Z hr => (ss_cons (s_set sc.nd (m_lst a_nil hNil_len))
  (ss_cons (s_for (g_name 5 sc.nd) (pi_seqM rfl (m_ix (m_var 1) m_int)) (ss_one (s_for (g_name 6 sc.nd) (pi_seqM rfl (m_ix (m_var 1) m_int)) (ss_one (s_if (t_chain op_leM gI_ns op_leM gI_ns (m_var 2) (m_op op_addM gAdd_ns (m_fn call_lenM (g1_ns lenD_ns) B.len (by decide +kernel) (a_cons (m_var 5) a_nil)) (m_fn call_lenM (g1_ns lenD_ns) B.len (by decide +kernel) (a_cons (m_var 6) a_nil))) (m_var 3)) (ss_one (s_expr (m_mut op_append mt_append PySem.F.slot_list_append PySem.F.type_list_append (pv 4) (a_cons (m_ty call_tupleM (g1_ns tupleD_ns) B.tuple (by decide +kernel) (a_cons (m_fn (r_sorted hr) (g1_ns sortedD_ns) B.sorted (by decide +kernel) (a_cons (m_op op_addM gAdd_ns (m_call h__law_put hr (hCons_len (hCons_len (hCons_len hNil_len))) (a_cons (m_var 0) (a_cons m_int (a_cons (m_var 5) a_nil)))) (m_call h__law_put hr (hCons_len (hCons_len (hCons_len hNil_len))) (a_cons (m_var 0) (a_cons m_int (a_cons (m_var 6) a_nil))))) a_nil)) a_nil)) a_nil)))) ss_nil)))))
  (ss_one (s_ret (m_fn (r_sorted hr) (g1_ns sortedD_ns) B.sorted (by decide +kernel) (a_cons (m_var 4) a_nil)))))))⟩
abbrev st__law_words : Stmt := topS 42
theorem sc__law_words : FnScope ["many", "some", "found", "lot", "ran", "one"] ["many", "some"] (defScope st__law_words) := ⟨rfl, rfl, rfl, by decide +kernel, rfl, by decide +kernel, by decide +kernel⟩
def f__law_words_1 : MS := (sSeq (sSet 4 (eFrz [] (eComp [5] (iSeq (eVar 1)) (gNm 5) mYes (eOp gIn (eVar 3) (eVar 5)))))
  (sDrop (eMut gAppend 2 (hCons (eIf (mTest (eCall (hCons (eVar 4) hNil) (g1 allD))) (eC (.str [115, 117, 114, 101])) (eIf (mTest (eCall (hCons (eVar 4) hNil) (g1 anyD))) (eC (.str [111, 112, 101, 110])) (eC (.str [110, 101, 118, 101, 114])))) hNil))))
def r__law_words_3 : MS := (sRet (eCall (hCons (eVar 2) hNil) (g1 tupleD)))
def r__law_words_2 : MS := (sSeq (sFor (iRng (hCons (eVar 0) hNil)) (gNm 3) (f__law_words_1))
  (r__law_words_3))
def r__law_words_1 : MS := (sSeq (sSet 2 (eLst hNil))
  (r__law_words_2))
def b__law_words : MS := (sSeq (sIf (mTest (eOp gEq (eVar 1) (eLst hNil))) (sRet (eC .non)) sNext)
  (r__law_words_1))
def m__law_words : MS := b__law_words
def g__law_words : List D → T D := mkFn 6 2 m__law_words
theorem has__law_words {k : Nat} (B : Bl mg)   (Dn : DefIn K mg "_law_words" st__law_words ["many", "some"]) : Has Pg w K mg base (k + 1) "_law_words" 2 g__law_words := by
  obtain ⟨f, fd, Fn, hm, hb⟩ := Dn.ex
  have sc := sc__law_words
  exact ⟨f, fd, _, hm, Fn.kp, hb, rfl, fn_okG Fn sc (fun cdv A outer s H Z hr => (ss_cons (s_if (t_cmp (r_eq hr) gEq_ns (m_var 1) (m_lst a_nil hNil_len) (nomark _)) (ss_one (s_ret m_non)) ss_nil)
  (ss_cons (s_set sc.nd (m_lst a_nil hNil_len))
  (ss_cons (s_for (g_name 3 sc.nd) (pi_rng1M rfl (by rfl) B.range (a_cons (m_var 0) a_nil) (hCons_len hNil_len)) (ss_cons (s_setLc [("one", 5)] [] sc.nd (pi_seqM rfl (m_var 1)) (blkOk_by (by kernel_rfl)) (fun _ _ _ _ _ => (g_name 5 sc.nd)) (fun _ _ _ _ _ => ts_nil) (fun _ _ _ _ _ => (m_cmp (r_in hr) gIn_ns (m_var 3) (m_var 5) (by with_unfolding_all rfl))))
  (ss_one (s_expr (m_mut op_append mt_append PySem.F.slot_list_append PySem.F.type_list_append (pv 2) (a_cons (m_if (t_val (m_fn (call_allM rfl) (g1_ns allD_ns) B.all (by decide +kernel) (a_cons (m_var 4) a_nil))) (m_str [115, 117, 114, 101]) (m_if (t_val (m_fn (call_anyM rfl) (g1_ns anyD_ns) B.any (by decide +kernel) (a_cons (m_var 4) a_nil))) (m_str [111, 112, 101, 110]) (m_str [110, 101, 118, 101, 114]))) a_nil))))))
  (ss_one (s_ret (m_ty call_tupleM (g1_ns tupleD_ns) B.tuple (by decide +kernel) (a_cons (m_var 2) a_nil))))))))⟩
abbrev st__law_right : Stmt := topS 43
theorem sc__law_right : FnScope ["pot", "sizes", "is_wrong", "halls", "order", "many", "least", "most", "washes", "hall", "at", "load", "stained", "mays", "due", "top", "wrong", "some", "rest", "left", "best", "stays", "lone", "size", "lot", "one", "word"] ["pot"] (defScope st__law_right) := ⟨rfl, rfl, rfl, by decide +kernel, rfl, by decide +kernel, by decide +kernel⟩
def f__law_right_1 (g__law_beside g__law_both g__law_may g__law_put g__law_some g__law_take g__law_washes g__law_words g_first_wrong g_may_have g_next_load g_told : List D → T D) : MS := (sSeq (sAsg (eOp gIx (eOp gIx (eVar 3) (eVar 9)) (eVar 10)) (gTp 2 (gsCons (gNm 11) (gsCons (gNm 12) gsNil))))
  (sDrop (eMut gAppend 8 (hCons (eTup (hCons (eDef g__law_put (hCons (eVar 4) (hCons (eVar 9) (hCons (eVar 11) hNil)))) (hCons (eVar 12) hNil))) hNil))))
def f__law_right_2 (g__law_beside g__law_both g__law_may g__law_put g__law_some g__law_take g__law_washes g__law_words g_first_wrong g_may_have g_next_load g_told : List D → T D) : MS := (sSeq (sSet 15 (eCall (hCons (eC (.int 3)) (hCons (eOp gIx (eVar 1) (eVar 9)) hNil)) (gI2 min)))
  (sIf (mTest (eRep not (eDef g_may_have (hCons (eOp gIx (eVar 1) (eVar 9)) (hCons (eCall (hCons (eOp gIx (eVar 3) (eVar 9)) hNil) (g1 tupleD)) (hCons (eC (.int 0)) (hCons (eVar 15) hNil))))) (eCall (hCons (eOp gIx (eVar 13) (eVar 9)) hNil) (g1 tupleD)))) (sRet (eC (.bl false))) sNext))
def f__law_right_3 (g__law_beside g__law_both g__law_may g__law_put g__law_some g__law_take g__law_washes g__law_words g_first_wrong g_may_have g_next_load g_told : List D → T D) : MS := (sIf (mTest (eOp gEq (eFrz [17] (eComp [17] (iSeq (eDef g__law_may (hCons (eVar 5) (hCons (eSl (eVar 8) oNone (oSome (eOp gAdd (eVar 10) (eC (.int 1))))) hNil)))) (gNm 17) (mTest (eChain (gI iLe) (gI iLe) (eVar 6) (eCall (hCons (eVar 17) hNil) (g1 lenD)) (eVar 7))) (eVar 17))) (eLst hNil))) (sDrop (eMut gAppend 16 (hCons (eVar 10) hNil))) sNext)
def f__law_right_4 (g__law_beside g__law_both g__law_may g__law_put g__law_some g__law_take g__law_washes g__law_words g_first_wrong g_may_have g_next_load g_told : List D → T D) : MS := (sIf (mTest (eOp gNe (eCall (hCons (eDef g_may_have (hCons (eVar 5) (hCons (eOp gAdd (eVar 8) (eTup (hCons (eTup (hCons (eVar 11) (hCons (eVar 12) hNil))) hNil))) (hCons (eVar 6) (hCons (eVar 7) hNil))))) hNil) (g1 listD)) (eOp gIx (eVar 18) (eCall (hCons (eVar 12) hNil) (g1 intD))))) (sRet (eC (.bl false))) sNext)
def r__law_right_26 (g__law_beside g__law_both g__law_may g__law_put g__law_some g__law_take g__law_washes g__law_words g_first_wrong g_may_have g_next_load g_told : List D → T D) : MS := (sRet (eCall (hCons (eFrz [17] (eComp [17] (iSeq (eVar 22)) (gNm 17) mYes (eOp (gI iLe) (eVar 19) (eCall (hCons (eVar 17) (hCons (eOp (gI iSub) (eCall (hCons (eVar 14) hNil) (g1 lenD)) (eVar 17)) hNil)) (gI2 max))))) hNil) (g1 allD)))
def r__law_right_25 (g__law_beside g__law_both g__law_may g__law_put g__law_some g__law_take g__law_washes g__law_words g_first_wrong g_may_have g_next_load g_told : List D → T D) : MS := (sSeq (sSet 22 (eFrz [] (eComp [24] (iRng (hCons (eVar 5) hNil)) (gNm 24) mYes (eCall (hCons (eComp [25] (iSeq (eVar 14)) (gNm 25) (mTest (eOp gIn (eVar 24) (eVar 25))) (eVar 25)) hNil) (g1 lenD)))))
  (r__law_right_26 g__law_beside g__law_both g__law_may g__law_put g__law_some g__law_take g__law_washes g__law_words g_first_wrong g_may_have g_next_load g_told))
def r__law_right_24 (g__law_beside g__law_both g__law_may g__law_put g__law_some g__law_take g__law_washes g__law_words g_first_wrong g_may_have g_next_load g_told : List D → T D) : MS := (sSeq (sIf (mOr (mTest (eOp gNe (eVar 19) (eCall (hCons (eVar 21) hNil) (g1 maxD)))) (mTest (eOp (gI iGt) (eVar 19) (eCall (hCons (eCall (hCons (eOp gIx (eVar 18) (eC (.int 0))) hNil) (g1 lenD)) (hCons (eCall (hCons (eOp gIx (eVar 18) (eC (.int 1))) hNil) (g1 lenD)) hNil)) (gI2 max))))) (sRet (eC (.bl false))) sNext)
  (r__law_right_25 g__law_beside g__law_both g__law_may g__law_put g__law_some g__law_take g__law_washes g__law_words g_first_wrong g_may_have g_next_load g_told))
def r__law_right_23 (g__law_beside g__law_both g__law_may g__law_put g__law_some g__law_take g__law_washes g__law_words g_first_wrong g_may_have g_next_load g_told : List D → T D) : MS := (sSeq (sSet 21 (eFrz [] (eComp [26] (iSeq (eTup (hCons (eC (.bl false)) (hCons (eC (.bl true)) hNil)))) (gNm 26) mYes (eCall (hCons (eComp [25] (iSeq (eVar 14)) (gNm 25) (mTest (eOp gEq (eCall (hCons (eComp [24] (iSeq (eVar 20)) (gNm 24) mYes (eOp gIn (eVar 24) (eVar 25))) hNil) (g1 anyD)) (eVar 26))) (eVar 25)) hNil) (g1 lenD)))))
  (r__law_right_24 g__law_beside g__law_both g__law_may g__law_put g__law_some g__law_take g__law_washes g__law_words g_first_wrong g_may_have g_next_load g_told))
def r__law_right_22 (g__law_beside g__law_both g__law_may g__law_put g__law_some g__law_take g__law_washes g__law_words g_first_wrong g_may_have g_next_load g_told : List D → T D) : MS := (sSeq (sAsg (eDef g_next_load (hCons (eVar 5) (hCons (eVar 8) (hCons (eVar 6) (hCons (eVar 7) hNil))))) (gTp 2 (gsCons (gNm 19) (gsCons (gNm 20) gsNil))))
  (r__law_right_23 g__law_beside g__law_both g__law_may g__law_put g__law_some g__law_take g__law_washes g__law_words g_first_wrong g_may_have g_next_load g_told))
def r__law_right_21 (g__law_beside g__law_both g__law_may g__law_put g__law_some g__law_take g__law_washes g__law_words g_first_wrong g_may_have g_next_load g_told : List D → T D) : MS := (sSeq (sIf (mTest (eOp (gI iGt) (eVar 5) (eC (.int 8)))) (sRet (eC (.bl true))) sNext)
  (r__law_right_22 g__law_beside g__law_both g__law_may g__law_put g__law_some g__law_take g__law_washes g__law_words g_first_wrong g_may_have g_next_load g_told))
def r__law_right_20 (g__law_beside g__law_both g__law_may g__law_put g__law_some g__law_take g__law_washes g__law_words g_first_wrong g_may_have g_next_load g_told : List D → T D) : MS := (sSeq (sFor (iSeq (eTup (hCons (eC (.bl false)) (hCons (eC (.bl true)) hNil)))) (gNm 12) (f__law_right_4 g__law_beside g__law_both g__law_may g__law_put g__law_some g__law_take g__law_washes g__law_words g_first_wrong g_may_have g_next_load g_told))
  (r__law_right_21 g__law_beside g__law_both g__law_may g__law_put g__law_some g__law_take g__law_washes g__law_words g_first_wrong g_may_have g_next_load g_told))
def r__law_right_19 (g__law_beside g__law_both g__law_may g__law_put g__law_some g__law_take g__law_washes g__law_words g_first_wrong g_may_have g_next_load g_told : List D → T D) : MS := (sSeq (sSet 18 (eFrz [12] (eComp [12] (iSeq (eTup (hCons (eC (.bl false)) (hCons (eC (.bl true)) hNil)))) (gNm 12) mYes (eComp [25] (iSeq (eVar 14)) (gNm 25) (mTest (eOp gEq (eCall (hCons (eComp [24] (iSeq (eVar 11)) (gNm 24) mYes (eOp gIn (eVar 24) (eVar 25))) hNil) (g1 anyD)) (eVar 12))) (eVar 25)))))
  (r__law_right_20 g__law_beside g__law_both g__law_may g__law_put g__law_some g__law_take g__law_washes g__law_words g_first_wrong g_may_have g_next_load g_told))
def r__law_right_18 (g__law_beside g__law_both g__law_may g__law_put g__law_some g__law_take g__law_washes g__law_words g_first_wrong g_may_have g_next_load g_told : List D → T D) : MS := (sSeq (sSet 11 (eCall (hCons (eCall (hCons (eOp gAdd (eDef g__law_put (hCons (eVar 4) (hCons (eC (.int 0)) (hCons (eOp gIx (eVar 17) (eC (.int 0))) hNil)))) (eDef g__law_put (hCons (eVar 4) (hCons (eC (.int 1)) (hCons (eOp gIx (eVar 17) (eC (.int 1))) hNil))))) hNil) (g1 sortedD)) hNil) (g1 tupleD)))
  (r__law_right_19 g__law_beside g__law_both g__law_may g__law_put g__law_some g__law_take g__law_washes g__law_words g_first_wrong g_may_have g_next_load g_told))
def r__law_right_17 (g__law_beside g__law_both g__law_may g__law_put g__law_some g__law_take g__law_washes g__law_words g_first_wrong g_may_have g_next_load g_told : List D → T D) : MS := (sSeq (sSet 17 (eFrz [] (eComp [23] (iSeq (eVar 1)) (gNm 23) mYes (eComp [24] (iSeq (eDef g__law_some (hCons (eVar 0) (hCons (eRg1 mkL (eVar 23)) (hCons (eOp gAdd (eC (.int 1)) (eCall (hCons (eDef g__law_take (hCons (eVar 0) (hCons (eVar 23) hNil))) hNil) (g1 intD))) hNil))))) (gNm 24) mYes (eCall (hCons (eVar 24) hNil) (g1 intD))))))
  (r__law_right_18 g__law_beside g__law_both g__law_may g__law_put g__law_some g__law_take g__law_washes g__law_words g_first_wrong g_may_have g_next_load g_told))
def r__law_right_16 (g__law_beside g__law_both g__law_may g__law_put g__law_some g__law_take g__law_washes g__law_words g_first_wrong g_may_have g_next_load g_told : List D → T D) : MS := (sSeq (sIf (mTest (eOp gEq (eVar 14) (eLst hNil))) (sRet (eOr (eOp gIsN (eDef g_first_wrong (hCons (eVar 5) (hCons (eVar 8) (hCons (eVar 6) (hCons (eVar 7) hNil))))) (eC .non)) (eOp gEq (eVar 8) (eTup hNil)))) sNext)
  (r__law_right_17 g__law_beside g__law_both g__law_may g__law_put g__law_some g__law_take g__law_washes g__law_words g_first_wrong g_may_have g_next_load g_told))
def r__law_right_15 (g__law_beside g__law_both g__law_may g__law_put g__law_some g__law_take g__law_washes g__law_words g_first_wrong g_may_have g_next_load g_told : List D → T D) : MS := (sSeq (sIf (mTest (eRep not (eDef g_first_wrong (hCons (eVar 5) (hCons (eVar 8) (hCons (eVar 6) (hCons (eVar 7) hNil))))) (eIf (mTest (eOp gNe (eVar 16) (eLst hNil))) (eOp gIx (eVar 16) (eC (.int 0))) (eC .non)))) (sRet (eC (.bl false))) sNext)
  (r__law_right_16 g__law_beside g__law_both g__law_may g__law_put g__law_some g__law_take g__law_washes g__law_words g_first_wrong g_may_have g_next_load g_told))
def r__law_right_14 (g__law_beside g__law_both g__law_may g__law_put g__law_some g__law_take g__law_washes g__law_words g_first_wrong g_may_have g_next_load g_told : List D → T D) : MS := (sSeq (sFor (iRng (hCons (eCall (hCons (eVar 8) hNil) (g1 lenD)) hNil)) (gNm 10) (f__law_right_3 g__law_beside g__law_both g__law_may g__law_put g__law_some g__law_take g__law_washes g__law_words g_first_wrong g_may_have g_next_load g_told))
  (r__law_right_15 g__law_beside g__law_both g__law_may g__law_put g__law_some g__law_take g__law_washes g__law_words g_first_wrong g_may_have g_next_load g_told))
def r__law_right_13 (g__law_beside g__law_both g__law_may g__law_put g__law_some g__law_take g__law_washes g__law_words g_first_wrong g_may_have g_next_load g_told : List D → T D) : MS := (sSeq (sSet 16 (eLst hNil))
  (r__law_right_14 g__law_beside g__law_both g__law_may g__law_put g__law_some g__law_take g__law_washes g__law_words g_first_wrong g_may_have g_next_load g_told))
def r__law_right_12 (g__law_beside g__law_both g__law_may g__law_put g__law_some g__law_take g__law_washes g__law_words g_first_wrong g_may_have g_next_load g_told : List D → T D) : MS := (sSeq (sFor (iSeq (eTup (hCons (eC (.int 0)) (hCons (eC (.int 1)) hNil)))) (gNm 9) (f__law_right_2 g__law_beside g__law_both g__law_may g__law_put g__law_some g__law_take g__law_washes g__law_words g_first_wrong g_may_have g_next_load g_told))
  (r__law_right_13 g__law_beside g__law_both g__law_may g__law_put g__law_some g__law_take g__law_washes g__law_words g_first_wrong g_may_have g_next_load g_told))
def r__law_right_11 (g__law_beside g__law_both g__law_may g__law_put g__law_some g__law_take g__law_washes g__law_words g_first_wrong g_may_have g_next_load g_told : List D → T D) : MS := (sSeq (sIf (mTest (eRep not (eDef g_told (hCons (eVar 5) (hCons (eVar 8) (hCons (eVar 6) (hCons (eVar 7) hNil))))) (eDef g__law_words (hCons (eVar 5) (hCons (eVar 14) hNil))))) (sRet (eC (.bl false))) sNext)
  (r__law_right_12 g__law_beside g__law_both g__law_may g__law_put g__law_some g__law_take g__law_washes g__law_words g_first_wrong g_may_have g_next_load g_told))
def r__law_right_10 (g__law_beside g__law_both g__law_may g__law_put g__law_some g__law_take g__law_washes g__law_words g_first_wrong g_may_have g_next_load g_told : List D → T D) : MS := (sSeq (sIf (mTest (eRep not (eDef g_may_have (hCons (eVar 5) (hCons (eVar 8) (hCons (eVar 6) (hCons (eVar 7) hNil))))) (eCall (hCons (eVar 14) hNil) (g1 tupleD)))) (sRet (eC (.bl false))) sNext)
  (r__law_right_11 g__law_beside g__law_both g__law_may g__law_put g__law_some g__law_take g__law_washes g__law_words g_first_wrong g_may_have g_next_load g_told))
def r__law_right_9 (g__law_beside g__law_both g__law_may g__law_put g__law_some g__law_take g__law_washes g__law_words g_first_wrong g_may_have g_next_load g_told : List D → T D) : MS := (sSeq (sSet 14 (eDef g__law_both (hCons (eVar 4) (hCons (eVar 13) (hCons (eVar 6) (hCons (eVar 7) hNil))))))
  (r__law_right_10 g__law_beside g__law_both g__law_may g__law_put g__law_some g__law_take g__law_washes g__law_words g_first_wrong g_may_have g_next_load g_told))
def r__law_right_8 (g__law_beside g__law_both g__law_may g__law_put g__law_some g__law_take g__law_washes g__law_words g_first_wrong g_may_have g_next_load g_told : List D → T D) : MS := (sSeq (sPar [8, 13] (hCons (eCall (hCons (eVar 8) hNil) (g1 tupleD)) (hCons (eFrz [9] (eComp [9] (iSeq (eTup (hCons (eC (.int 0)) (hCons (eC (.int 1)) hNil)))) (gNm 9) mYes (eDef g__law_may (hCons (eOp gIx (eVar 1) (eVar 9)) (hCons (eOp gIx (eVar 3) (eVar 9)) hNil))))) hNil)))
  (r__law_right_9 g__law_beside g__law_both g__law_may g__law_put g__law_some g__law_take g__law_washes g__law_words g_first_wrong g_may_have g_next_load g_told))
def r__law_right_7 (g__law_beside g__law_both g__law_may g__law_put g__law_some g__law_take g__law_washes g__law_words g_first_wrong g_may_have g_next_load g_told : List D → T D) : MS := (sSeq (sFor (iSeq (eDef g__law_beside (hCons (eVar 0) (hCons (eCall (hCons (eOp gIx (eVar 3) (eC (.int 0))) hNil) (g1 lenD)) (hCons (eCall (hCons (eOp gIx (eVar 3) (eC (.int 1))) hNil) (g1 lenD)) hNil))))) (gTp 2 (gsCons (gNm 9) (gsCons (gNm 10) gsNil))) (f__law_right_1 g__law_beside g__law_both g__law_may g__law_put g__law_some g__law_take g__law_washes g__law_words g_first_wrong g_may_have g_next_load g_told))
  (r__law_right_8 g__law_beside g__law_both g__law_may g__law_put g__law_some g__law_take g__law_washes g__law_words g_first_wrong g_may_have g_next_load g_told))
def r__law_right_6 (g__law_beside g__law_both g__law_may g__law_put g__law_some g__law_take g__law_washes g__law_words g_first_wrong g_may_have g_next_load g_told : List D → T D) : MS := (sSeq (sSet 8 (eLst hNil))
  (r__law_right_7 g__law_beside g__law_both g__law_may g__law_put g__law_some g__law_take g__law_washes g__law_words g_first_wrong g_may_have g_next_load g_told))
def r__law_right_5 (g__law_beside g__law_both g__law_may g__law_put g__law_some g__law_take g__law_washes g__law_words g_first_wrong g_may_have g_next_load g_told : List D → T D) : MS := (sSeq (sSet 7 (eOp gAdd (eVar 6) (eCall (hCons (eDef g__law_take (hCons (eVar 0) (hCons (eOp gAdd (eOp (gI iSub) (eCall (hCons (eC (.int 3)) (hCons (eVar 5) hNil)) (gI2 min)) (eVar 6)) (eC (.int 1))) hNil))) hNil) (g1 intD))))
  (r__law_right_6 g__law_beside g__law_both g__law_may g__law_put g__law_some g__law_take g__law_washes g__law_words g_first_wrong g_may_have g_next_load g_told))
def r__law_right_4 (g__law_beside g__law_both g__law_may g__law_put g__law_some g__law_take g__law_washes g__law_words g_first_wrong g_may_have g_next_load g_told : List D → T D) : MS := (sSeq (sSet 6 (eCall (hCons (eDef g__law_take (hCons (eVar 0) (hCons (eOp gAdd (eCall (hCons (eC (.int 3)) (hCons (eVar 5) hNil)) (gI2 min)) (eC (.int 1))) hNil))) hNil) (g1 intD)))
  (r__law_right_5 g__law_beside g__law_both g__law_may g__law_put g__law_some g__law_take g__law_washes g__law_words g_first_wrong g_may_have g_next_load g_told))
def r__law_right_3 (g__law_beside g__law_both g__law_may g__law_put g__law_some g__law_take g__law_washes g__law_words g_first_wrong g_may_have g_next_load g_told : List D → T D) : MS := (sSeq (sPar [4, 5] (hCons (eDef g__law_beside (hCons (eVar 0) (hCons (eOp gIx (eVar 1) (eC (.int 0))) (hCons (eOp gIx (eVar 1) (eC (.int 1))) hNil)))) (hCons (eOp gAdd (eOp gIx (eVar 1) (eC (.int 0))) (eOp gIx (eVar 1) (eC (.int 1)))) hNil)))
  (r__law_right_4 g__law_beside g__law_both g__law_may g__law_put g__law_some g__law_take g__law_washes g__law_words g_first_wrong g_may_have g_next_load g_told))
def r__law_right_2 (g__law_beside g__law_both g__law_may g__law_put g__law_some g__law_take g__law_washes g__law_words g_first_wrong g_may_have g_next_load g_told : List D → T D) : MS := (sSeq (sSet 3 (eLst (hCons (eDef g__law_washes (hCons (eVar 0) (hCons (eOp gIx (eVar 1) (eC (.int 0))) (hCons (eVar 2) hNil)))) (hCons (eDef g__law_washes (hCons (eVar 0) (hCons (eOp gIx (eVar 1) (eC (.int 1))) (hCons (eC (.bl false)) hNil)))) hNil))))
  (r__law_right_3 g__law_beside g__law_both g__law_may g__law_put g__law_some g__law_take g__law_washes g__law_words g_first_wrong g_may_have g_next_load g_told))
def r__law_right_1 (g__law_beside g__law_both g__law_may g__law_put g__law_some g__law_take g__law_washes g__law_words g_first_wrong g_may_have g_next_load g_told : List D → T D) : MS := (sSeq (sSet 2 (eOp gEq (eDef g__law_take (hCons (eVar 0) (hCons (eC (.int 4)) hNil))) (eC (.int 0))))
  (r__law_right_2 g__law_beside g__law_both g__law_may g__law_put g__law_some g__law_take g__law_washes g__law_words g_first_wrong g_may_have g_next_load g_told))
def b__law_right (g__law_beside g__law_both g__law_may g__law_put g__law_some g__law_take g__law_washes g__law_words g_first_wrong g_may_have g_next_load g_told : List D → T D) : MS := (sSeq (sSet 1 (eLst (hCons (eOp gAdd (eC (.int 1)) (eCall (hCons (eDef g__law_take (hCons (eVar 0) (hCons (eC (.int 6)) hNil))) hNil) (g1 intD))) (hCons (eOp gAdd (eC (.int 1)) (eCall (hCons (eDef g__law_take (hCons (eVar 0) (hCons (eC (.int 6)) hNil))) hNil) (g1 intD))) hNil))))
  (r__law_right_1 g__law_beside g__law_both g__law_may g__law_put g__law_some g__law_take g__law_washes g__law_words g_first_wrong g_may_have g_next_load g_told))
def m__law_right : MS := b__law_right g__law_beside g__law_both g__law_may g__law_put g__law_some g__law_take g__law_washes g__law_words g_first_wrong g_may_have g_next_load g_told
def g__law_right : List D → T D := mkFn 27 1 m__law_right
theorem has__law_right {k : Nat} (B : Bl mg)  (h__law_beside : Has Pg w K mg base k "_law_beside" 3 g__law_beside) (h__law_both : Has Pg w K mg base k "_law_both" 4 g__law_both) (h__law_may : Has Pg w K mg base k "_law_may" 2 g__law_may) (h__law_put : Has Pg w K mg base k "_law_put" 3 g__law_put) (h__law_some : Has Pg w K mg base k "_law_some" 3 g__law_some) (h__law_take : Has Pg w K mg base k "_law_take" 2 g__law_take) (h__law_washes : Has Pg w K mg base k "_law_washes" 3 g__law_washes) (h__law_words : Has Pg w K mg base k "_law_words" 2 g__law_words) (h_first_wrong : Has Pg w K mg base k "first_wrong" 4 g_first_wrong) (h_may_have : Has Pg w K mg base k "may_have" 4 g_may_have) (h_next_load : Has Pg w K mg base k "next_load" 4 g_next_load) (h_told : Has Pg w K mg base k "told" 4 g_told) (Dn : DefIn K mg "_law_right" st__law_right ["pot"]) : Has Pg w K mg base (k + 1) "_law_right" 1 g__law_right := by
  obtain ⟨f, fd, Fn, hm, hb⟩ := Dn.ex
  have sc := sc__law_right
  exact ⟨f, fd, _, hm, Fn.kp, hb, rfl, fn_okG Fn sc (fun cdv A outer s H Z hr => (ss_cons (s_set sc.nd (m_lst (a_cons (m_op op_addM gAdd_ns m_int (m_ty call_intM (g1_ns intD_ns) B.int (by decide +kernel) (a_cons (m_call h__law_take hr (hCons_len (hCons_len hNil_len)) (a_cons (m_var 0) (a_cons m_int a_nil))) a_nil))) (a_cons (m_op op_addM gAdd_ns m_int (m_ty call_intM (g1_ns intD_ns) B.int (by decide +kernel) (a_cons (m_call h__law_take hr (hCons_len (hCons_len hNil_len)) (a_cons (m_var 0) (a_cons m_int a_nil))) a_nil))) a_nil)) (hCons_len (hCons_len hNil_len))))
  (ss_cons (s_set sc.nd (m_cmp (r_eq hr) gEq_ns (m_call h__law_take hr (hCons_len (hCons_len hNil_len)) (a_cons (m_var 0) (a_cons m_int a_nil))) m_int (nomark _)))
  (ss_cons (s_set sc.nd (m_lst (a_cons (m_call h__law_washes hr (hCons_len (hCons_len (hCons_len hNil_len))) (a_cons (m_var 0) (a_cons (m_ix (m_var 1) m_int) (a_cons (m_var 2) a_nil)))) (a_cons (m_call h__law_washes hr (hCons_len (hCons_len (hCons_len hNil_len))) (a_cons (m_var 0) (a_cons (m_ix (m_var 1) m_int) (a_cons m_bl a_nil)))) a_nil)) (hCons_len (hCons_len hNil_len))))
  (ss_cons (s_par2 sc.nd (a_cons (m_call h__law_beside hr (hCons_len (hCons_len (hCons_len hNil_len))) (a_cons (m_var 0) (a_cons (m_ix (m_var 1) m_int) (a_cons (m_ix (m_var 1) m_int) a_nil)))) (a_cons (m_op op_addM gAdd_ns (m_ix (m_var 1) m_int) (m_ix (m_var 1) m_int)) a_nil)) (hCons_len (hCons_len hNil_len)))
  (ss_cons (s_set sc.nd (m_ty call_intM (g1_ns intD_ns) B.int (by decide +kernel) (a_cons (m_call h__law_take hr (hCons_len (hCons_len hNil_len)) (a_cons (m_var 0) (a_cons (m_op op_addM gAdd_ns (m_fn (call_min2M rfl) gI2_ns B.min (by decide +kernel) (a_cons m_int (a_cons (m_var 5) a_nil))) m_int) a_nil))) a_nil)))
  (ss_cons (s_set sc.nd (m_op op_addM gAdd_ns (m_var 6) (m_ty call_intM (g1_ns intD_ns) B.int (by decide +kernel) (a_cons (m_call h__law_take hr (hCons_len (hCons_len hNil_len)) (a_cons (m_var 0) (a_cons (m_op op_addM gAdd_ns (m_op op_subM gI_ns (m_fn (call_min2M rfl) gI2_ns B.min (by decide +kernel) (a_cons m_int (a_cons (m_var 5) a_nil))) (m_var 6)) m_int) a_nil))) a_nil))))
  (ss_cons (s_set sc.nd (m_lst a_nil hNil_len))
  (ss_cons (s_for (g_tup (gs_cons (g_name 9 sc.nd) (gs_cons (g_name 10 sc.nd) gs_nil))) (pi_seqM rfl (m_call h__law_beside hr (hCons_len (hCons_len (hCons_len hNil_len))) (a_cons (m_var 0) (a_cons (m_fn call_lenM (g1_ns lenD_ns) B.len (by decide +kernel) (a_cons (m_ix (m_var 3) m_int) a_nil)) (a_cons (m_fn call_lenM (g1_ns lenD_ns) B.len (by decide +kernel) (a_cons (m_ix (m_var 3) m_int) a_nil)) a_nil))))) (ss_cons (s_asg (g_tup (gs_cons (g_name 11 sc.nd) (gs_cons (g_name 12 sc.nd) gs_nil))) (m_ix (m_ix (m_var 3) (m_var 9)) (m_var 10)))
  (ss_one (s_expr (m_mut op_append mt_append PySem.F.slot_list_append PySem.F.type_list_append (pv 8) (a_cons (m_tup (a_cons (m_call h__law_put hr (hCons_len (hCons_len (hCons_len hNil_len))) (a_cons (m_var 4) (a_cons (m_var 9) (a_cons (m_var 11) a_nil)))) (a_cons (m_var 12) a_nil)) (hCons_len (hCons_len hNil_len))) a_nil))))))
  (ss_cons (s_par2 sc.nd (a_cons (m_ty call_tupleM (g1_ns tupleD_ns) B.tuple (by decide +kernel) (a_cons (m_var 8) a_nil)) (a_cons (m_frz [9] (m_comp [("hall", 9)] sc.nd (pi_seqM rfl (m_tup (a_cons m_int (a_cons m_int a_nil)) (hCons_len (hCons_len hNil_len)))) (blkOk_by (by kernel_rfl)) (fun _ _ _ _ _ => (g_name 9 sc.nd)) (fun _ _ _ _ _ => ts_nil) (fun _ _ _ _ _ => (m_call h__law_may hr (hCons_len (hCons_len hNil_len)) (a_cons (m_ix (m_var 1) (m_var 9)) (a_cons (m_ix (m_var 3) (m_var 9)) a_nil)))))) a_nil)) (hCons_len (hCons_len hNil_len)))
  (ss_cons (s_set sc.nd (m_call h__law_both hr (hCons_len (hCons_len (hCons_len (hCons_len hNil_len)))) (a_cons (m_var 4) (a_cons (m_var 13) (a_cons (m_var 6) (a_cons (m_var 7) a_nil))))))
  (ss_cons (s_if (t_rep op_ne rep_ne B.repr hr (m_call h_may_have hr (hCons_len (hCons_len (hCons_len (hCons_len hNil_len)))) (a_cons (m_var 5) (a_cons (m_var 8) (a_cons (m_var 6) (a_cons (m_var 7) a_nil))))) (m_ty call_tupleM (g1_ns tupleD_ns) B.tuple (by decide +kernel) (a_cons (m_var 14) a_nil)) (nomark _)) (ss_one (s_ret m_bl)) ss_nil)
  (ss_cons (s_if (t_rep op_ne rep_ne B.repr hr (m_call h_told hr (hCons_len (hCons_len (hCons_len (hCons_len hNil_len)))) (a_cons (m_var 5) (a_cons (m_var 8) (a_cons (m_var 6) (a_cons (m_var 7) a_nil))))) (m_call h__law_words hr (hCons_len (hCons_len hNil_len)) (a_cons (m_var 5) (a_cons (m_var 14) a_nil))) (nomark _)) (ss_one (s_ret m_bl)) ss_nil)
  (ss_cons (s_for (g_name 9 sc.nd) (pi_seqM rfl (m_tup (a_cons m_int (a_cons m_int a_nil)) (hCons_len (hCons_len hNil_len)))) (ss_cons (s_set sc.nd (m_fn (call_min2M rfl) gI2_ns B.min (by decide +kernel) (a_cons m_int (a_cons (m_ix (m_var 1) (m_var 9)) a_nil))))
  (ss_one (s_if (t_rep op_ne rep_ne B.repr hr (m_call h_may_have hr (hCons_len (hCons_len (hCons_len (hCons_len hNil_len)))) (a_cons (m_ix (m_var 1) (m_var 9)) (a_cons (m_ty call_tupleM (g1_ns tupleD_ns) B.tuple (by decide +kernel) (a_cons (m_ix (m_var 3) (m_var 9)) a_nil)) (a_cons m_int (a_cons (m_var 15) a_nil))))) (m_ty call_tupleM (g1_ns tupleD_ns) B.tuple (by decide +kernel) (a_cons (m_ix (m_var 13) (m_var 9)) a_nil)) (nomark _)) (ss_one (s_ret m_bl)) ss_nil))))
  (ss_cons (s_set sc.nd (m_lst a_nil hNil_len))
  (ss_cons (s_for (g_name 10 sc.nd) (pi_rng1M rfl (by rfl) B.range (a_cons (m_fn call_lenM (g1_ns lenD_ns) B.len (by decide +kernel) (a_cons (m_var 8) a_nil)) a_nil) (hCons_len hNil_len)) (ss_one (s_if (t_cmp (r_eq hr) gEq_ns (m_frz [17] (m_comp [("some", 17)] sc.nd (pi_seqM rfl (m_call h__law_may hr (hCons_len (hCons_len hNil_len)) (a_cons (m_var 5) (a_cons (m_sl (m_var 8) o_none (o_some (m_op op_addM gAdd_ns (m_var 10) m_int))) a_nil)))) (blkOk_by (by kernel_rfl)) (fun _ _ _ _ _ => (g_name 17 sc.nd)) (fun _ _ _ _ _ => (ts_one (t_chain op_leM gI_ns op_leM gI_ns (m_var 6) (m_fn call_lenM (g1_ns lenD_ns) B.len (by decide +kernel) (a_cons (m_var 17) a_nil)) (m_var 7)))) (fun _ _ _ _ _ => (m_var 17)))) (m_lst a_nil hNil_len) (nomark _)) (ss_one (s_expr (m_mut op_append mt_append PySem.F.slot_list_append PySem.F.type_list_append (pv 16) (a_cons (m_var 10) a_nil)))) ss_nil)))
  (ss_cons (s_if (t_rep op_ne rep_ne B.repr hr (m_call h_first_wrong hr (hCons_len (hCons_len (hCons_len (hCons_len hNil_len)))) (a_cons (m_var 5) (a_cons (m_var 8) (a_cons (m_var 6) (a_cons (m_var 7) a_nil))))) (m_if (t_cmp (r_ne hr) gNe_ns (m_var 16) (m_lst a_nil hNil_len) (nomark _)) (m_ix (m_var 16) m_int) m_non) (nomark _)) (ss_one (s_ret m_bl)) ss_nil)
  (ss_cons (s_if (t_cmp (r_eq hr) gEq_ns (m_var 14) (m_lst a_nil hNil_len) (nomark _)) (ss_one (s_ret (m_or (m_cmp op_isnM gIsN_ns (m_call h_first_wrong hr (hCons_len (hCons_len (hCons_len (hCons_len hNil_len)))) (a_cons (m_var 5) (a_cons (m_var 8) (a_cons (m_var 6) (a_cons (m_var 7) a_nil))))) m_non (nomark _)) (m_one (m_cmp (r_eq hr) gEq_ns (m_var 8) (m_tup a_nil hNil_len) (nomark _)))))) ss_nil)
  (ss_cons (s_setLc [("size", 23)] [] sc.nd (pi_seqM rfl (m_var 1)) (blkOk_by (by kernel_rfl)) (fun _ _ _ _ _ => (g_name 23 sc.nd)) (fun _ _ _ _ _ => ts_nil) (fun _ _ _ _ _ => (m_comp [("lot", 24)] sc.nd (pi_seqM rfl (m_call h__law_some hr (hCons_len (hCons_len (hCons_len hNil_len))) (a_cons (m_var 0) (a_cons (m_listRg1 B.list B.range (m_var 23)) (a_cons (m_op op_addM gAdd_ns m_int (m_ty call_intM (g1_ns intD_ns) B.int (by decide +kernel) (a_cons (m_call h__law_take hr (hCons_len (hCons_len hNil_len)) (a_cons (m_var 0) (a_cons (m_var 23) a_nil))) a_nil))) a_nil))))) (blkOk_by (by kernel_rfl)) (fun _ _ _ _ _ => (g_name 24 sc.nd)) (fun _ _ _ _ _ => ts_nil) (fun _ _ _ _ _ => (m_ty call_intM (g1_ns intD_ns) B.int (by decide +kernel) (a_cons (m_var 24) a_nil))))))
  (ss_cons (s_set sc.nd (m_ty call_tupleM (g1_ns tupleD_ns) B.tuple (by decide +kernel) (a_cons (m_fn (r_sorted hr) (g1_ns sortedD_ns) B.sorted (by decide +kernel) (a_cons (m_op op_addM gAdd_ns (m_call h__law_put hr (hCons_len (hCons_len (hCons_len hNil_len))) (a_cons (m_var 4) (a_cons m_int (a_cons (m_ix (m_var 17) m_int) a_nil)))) (m_call h__law_put hr (hCons_len (hCons_len (hCons_len hNil_len))) (a_cons (m_var 4) (a_cons m_int (a_cons (m_ix (m_var 17) m_int) a_nil))))) a_nil)) a_nil)))
  (ss_cons (s_setLc [("stained", 12)] [12] sc.nd (pi_seqM rfl (m_tup (a_cons m_bl (a_cons m_bl a_nil)) (hCons_len (hCons_len hNil_len)))) (blkOk_by (by kernel_rfl)) (fun _ _ _ _ _ => (g_name 12 sc.nd)) (fun _ _ _ _ _ => ts_nil) (fun _ _ _ _ _ => (m_comp [("one", 25)] sc.nd (pi_seqM rfl (m_var 14)) (blkOk_by (by kernel_rfl)) (fun _ _ _ _ _ => (g_name 25 sc.nd)) (fun _ _ _ _ _ => (ts_one (t_cmp (r_eq hr) gEq_ns (m_fn (call_anyM rfl) (g1_ns anyD_ns) B.any (by decide +kernel) (a_cons (m_comp [("lot", 24)] sc.nd (pi_seqM rfl (m_var 11)) (blkOk_by (by kernel_rfl)) (fun _ _ _ _ _ => (g_name 24 sc.nd)) (fun _ _ _ _ _ => ts_nil) (fun _ _ _ _ _ => (m_cmp (r_in hr) gIn_ns (m_var 24) (m_var 25) (by with_unfolding_all rfl)))) a_nil)) (m_var 12) (nomark _)))) (fun _ _ _ _ _ => (m_var 25)))))
  (ss_cons (s_for (g_name 12 sc.nd) (pi_seqM rfl (m_tup (a_cons m_bl (a_cons m_bl a_nil)) (hCons_len (hCons_len hNil_len)))) (ss_one (s_if (t_cmp (r_ne hr) gNe_ns (m_ty call_listM (g1_ns listD_ns) B.list (by decide +kernel) (a_cons (m_call h_may_have hr (hCons_len (hCons_len (hCons_len (hCons_len hNil_len)))) (a_cons (m_var 5) (a_cons (m_op op_addM gAdd_ns (m_var 8) (m_tup (a_cons (m_tup (a_cons (m_var 11) (a_cons (m_var 12) a_nil)) (hCons_len (hCons_len hNil_len))) a_nil) (hCons_len hNil_len))) (a_cons (m_var 6) (a_cons (m_var 7) a_nil))))) a_nil)) (m_ix (m_var 18) (m_ty call_intM (g1_ns intD_ns) B.int (by decide +kernel) (a_cons (m_var 12) a_nil))) (nomark _)) (ss_one (s_ret m_bl)) ss_nil)))
  (ss_cons (s_if (t_cmp op_gtM gI_ns (m_var 5) m_int (nomark _)) (ss_one (s_ret m_bl)) ss_nil)
  (ss_cons (s_asg (g_tup (gs_cons (g_name 19 sc.nd) (gs_cons (g_name 20 sc.nd) gs_nil))) (m_call h_next_load hr (hCons_len (hCons_len (hCons_len (hCons_len hNil_len)))) (a_cons (m_var 5) (a_cons (m_var 8) (a_cons (m_var 6) (a_cons (m_var 7) a_nil))))))
  (ss_cons (s_setLc [("word", 26)] [] sc.nd (pi_seqM rfl (m_tup (a_cons m_bl (a_cons m_bl a_nil)) (hCons_len (hCons_len hNil_len)))) (blkOk_by (by kernel_rfl)) (fun _ _ _ _ _ => (g_name 26 sc.nd)) (fun _ _ _ _ _ => ts_nil) (fun _ _ _ _ _ => (m_fn call_lenM (g1_ns lenD_ns) B.len (by decide +kernel) (a_cons (m_comp [("one", 25)] sc.nd (pi_seqM rfl (m_var 14)) (blkOk_by (by kernel_rfl)) (fun _ _ _ _ _ => (g_name 25 sc.nd)) (fun _ _ _ _ _ => (ts_one (t_cmp (r_eq hr) gEq_ns (m_fn (call_anyM rfl) (g1_ns anyD_ns) B.any (by decide +kernel) (a_cons (m_comp [("lot", 24)] sc.nd (pi_seqM rfl (m_var 20)) (blkOk_by (by kernel_rfl)) (fun _ _ _ _ _ => (g_name 24 sc.nd)) (fun _ _ _ _ _ => ts_nil) (fun _ _ _ _ _ => (m_cmp (r_in hr) gIn_ns (m_var 24) (m_var 25) (by with_unfolding_all rfl)))) a_nil)) (m_var 26) (nomark _)))) (fun _ _ _ _ _ => (m_var 25))) a_nil))))
  (ss_cons (s_if (PW.pt (w_or (t_cmp (r_ne hr) gNe_ns (m_var 19) (m_fn (call_maxM rfl) (g1_ns maxD_ns) B.max (by decide +kernel) (a_cons (m_var 21) a_nil)) (nomark _)) (w_one' (t_cmp op_gtM gI_ns (m_var 19) (m_fn (call_max2M rfl) gI2_ns B.max (by decide +kernel) (a_cons (m_fn call_lenM (g1_ns lenD_ns) B.len (by decide +kernel) (a_cons (m_ix (m_var 18) m_int) a_nil)) (a_cons (m_fn call_lenM (g1_ns lenD_ns) B.len (by decide +kernel) (a_cons (m_ix (m_var 18) m_int) a_nil)) a_nil))) (nomark _))))) (ss_one (s_ret m_bl)) ss_nil)
  (ss_cons (s_setLc [("lot", 24)] [] sc.nd (pi_rng1M rfl (by rfl) B.range (a_cons (m_var 5) a_nil) (hCons_len hNil_len)) (blkOk_by (by kernel_rfl)) (fun _ _ _ _ _ => (g_name 24 sc.nd)) (fun _ _ _ _ _ => ts_nil) (fun _ _ _ _ _ => (m_fn call_lenM (g1_ns lenD_ns) B.len (by decide +kernel) (a_cons (m_comp [("one", 25)] sc.nd (pi_seqM rfl (m_var 14)) (blkOk_by (by kernel_rfl)) (fun _ _ _ _ _ => (g_name 25 sc.nd)) (fun _ _ _ _ _ => (ts_one (t_cmp (r_in hr) gIn_ns (m_var 24) (m_var 25) (by with_unfolding_all rfl)))) (fun _ _ _ _ _ => (m_var 25))) a_nil))))
  (ss_one (s_ret (m_fn (call_allM rfl) (g1_ns allD_ns) B.all (by decide +kernel) (a_cons (m_frz [17] (m_comp [("some", 17)] sc.nd (pi_seqM rfl (m_var 22)) (blkOk_by (by kernel_rfl)) (fun _ _ _ _ _ => (g_name 17 sc.nd)) (fun _ _ _ _ _ => ts_nil) (fun _ _ _ _ _ => (m_cmp op_leM gI_ns (m_var 19) (m_fn (call_max2M rfl) gI2_ns B.max (by decide +kernel) (a_cons (m_var 17) (a_cons (m_op op_subM gI_ns (m_fn call_lenM (g1_ns lenD_ns) B.len (by decide +kernel) (a_cons (m_var 14) a_nil)) (m_var 17)) a_nil))) (nomark _))))) a_nil)))))))))))))))))))))))))))))))⟩
abbrev st_law : Stmt := topS 44
theorem sc_law : FnScope ["script", "place", "pot", "lap"] ["script"] (defScope st_law) := ⟨rfl, rfl, rfl, by decide +kernel, rfl, by decide +kernel, by decide +kernel⟩
def f_law_1 (g__law_cells g__law_pot g__law_right : List D → T D) : MS := (sIf (mNot (mTest (eDef g__law_right (hCons (eVar 2) hNil)))) (sRet (eC (.bl false))) sNext)
def f_law_2 (g__law_cells g__law_pot g__law_right : List D → T D) : MS := (sSeq (sSet 2 (eDef g__law_pot (hCons (eVar 0) (hCons (eVar 1) hNil))))
  (sFor (iRng (hCons (eC (.int 3)) hNil)) (gNm 3) (f_law_1 g__law_cells g__law_pot g__law_right)))
def b_law (g__law_cells g__law_pot g__law_right : List D → T D) : MS := (sSeq (sFor (iSeq (eDef g__law_cells (hCons (eVar 0) (hCons (eC (.int 3)) hNil)))) (gNm 1) (f_law_2 g__law_cells g__law_pot g__law_right))
  (sRet (eC (.bl true))))
def m_law : MS := b_law g__law_cells g__law_pot g__law_right
def g_law : List D → T D := mkFn 4 1 m_law
theorem fn_law {k : Nat} {f : Addr} {fd : FuncData} (B : Bl mg)  (h__law_cells : Has Pg w K mg base k "_law_cells" 2 g__law_cells) (h__law_pot : Has Pg w K mg base k "_law_pot" 2 g__law_pot) (h__law_right : Has Pg w K mg base k "_law_right" 1 g__law_right) (Fn : Fun K "law" "law" st_law f fd) : FnG Pg w K mg base (k + 1) f fd ["script"] (spM K g_law 1) := by
  have sc := sc_law
  exact fn_okG Fn sc (fun cdv A outer s H Z hr => (ss_cons (s_for (g_name 1 sc.nd) (pi_seqM rfl (m_call h__law_cells hr (hCons_len (hCons_len hNil_len)) (a_cons (m_var 0) (a_cons m_int a_nil)))) (ss_cons (s_set sc.nd (m_call h__law_pot hr (hCons_len (hCons_len hNil_len)) (a_cons (m_var 0) (a_cons (m_var 1) a_nil))))
  (ss_one (s_for (g_name 3 sc.nd) (pi_rng1M rfl (by rfl) B.range (a_cons m_int a_nil) (hCons_len hNil_len)) (ss_one (s_if (t_not (t_val (m_call h__law_right hr (hCons_len hNil_len) (a_cons (m_var 2) a_nil)))) (ss_one (s_ret m_bl)) ss_nil))))))
  (ss_one (s_ret m_bl))))
end Mi.K17
set_option Elab.async false
set_option linter.all false
set_option maxRecDepth 100000
set_option maxHeartbeats 4000000
namespace Mi.K17
open PySem PySem.Spec PyProof.Rows L2 Mi

theorem v_is_tuple (l : List D) (a b : Int) : g_is_tuple [.tup l, .int a, .int b] = .ret (.bl (decide (a ≤ l.length) && decide (l.length ≤ b))) := by
  simp [g_is_tuple, mkFn, m_is_tuple, b_is_tuple, startM]
  by_cases h : a ≤ l.length <;> simp [h]
theorem v_is_whole (i : Int) : g_is_whole [.int i] = .ret (.bl true) := by
  simp [g_is_whole, mkFn, m_is_whole, b_is_whole, startM]
theorem v_is_integer (i a b : Int) : g_is_integer [.int i, .int a, .int b] = .ret (.bl (decide (a ≤ i) && decide (i ≤ b))) := by
  simp [g_is_integer, mkFn, m_is_integer, b_is_integer, startM, v_is_whole, lf]
  by_cases h : a ≤ i <;> simp [h]
def risingB (l : List Int) : Bool := (l.zip (l.tail)).all fun z => decide (z.1 < z.2)
theorem v_is_rising (l : List Int) : g_is_rising [row l] = .ret (.bl (risingB l)) := by
  have hc : ∀ env : Ev, env = [some (false, row l), none, none] → eComp [1, 2] (iZipM (hCons (eVar 0) (hCons (eSl (eVar 0) (oSome (eC (.int 1))) oNone) hNil))) (gTp 2 (gsCons (gNm 1) (gsCons (gNm 2) gsNil))) mYes (eOp gLt (eVar 1) (eVar 2)) env = .ret (.tmp (.lst ((l.zip (l.tail)).map fun z => .bl (decide (z.1 < z.2)))), env) := by
    intro env he
    subst he
    rw [comp_each (env1 := [some (false, row l), none, none]) (l.zip (l.tail)) (fun z => .tup [.int z.1, .int z.2]) (fun z => .bl (decide (z.1 < z.2)))]
    · simp [wipeE, backE]
    · simp [row, cut_from, ← List.map_tail, zipL_map]
    · simp [free1]
    · rintro ⟨a, b⟩ _
      simp [wipeE]
  simp [g_is_rising, mkFn, m_is_rising, b_is_rising, startM]
  rw [hc _ rfl]
  simp [allD, seqD]
  rw [show (List.map (fun z : Int × Int => D.bl (decide (z.fst < z.snd))) (l.zip l.tail)) = ((l.zip l.tail).map fun z => decide (z.1 < z.2)).map .bl by simp, blsO_map]
  simp [risingB]

structure LoadOk (many : Int) (l : List Int) : Prop where
  one : 1 ≤ (l.length : Int)
  few : (l.length : Int) ≤ many
  low : ∀ x ∈ l, 0 ≤ x
  high : ∀ x ∈ l, x < many
  up : risingB l = true
theorem v_is_load {many : Int} {l : List Int} (h : LoadOk many l) : g_is_load [.int many, row l] = .ret (.bl true) := by
  simp [g_is_load, mkFn, m_is_load, b_is_load, startM, v_is_tuple, h.one, h.few, lf]
  rw [comp_each (env1 := [some (false, .int many), some (false, row l), none]) l D.int (fun _ => .bl true)]
  · simp [wipeE, backE, v_is_rising, h.up]
    rw [show (l.map fun _ => D.bl true) = (l.map fun _ => true).map .bl by simp, allD_bls]
    simp [lf, v_is_rising, h.up]
  · simp
  · simp [free1]
  · intro x m
    have h1 := h.low x m
    have h2 := h.high x m
    simp [wipeE, v_is_integer, h1, lf]
    omega
abbrev Wash := List Int × Bool
def wD (w : Wash) : D := .tup [row w.1, .bl w.2]
theorem v_is_wash {many : Int} {w : Wash} (h : LoadOk many w.1) : g_is_wash [.int many, wD w] = .ret (.bl true) := by
  simp [g_is_wash, mkFn, m_is_wash, b_is_wash, startM, v_is_tuple, wD, v_is_load h, lf]
theorem v_check_many {many : Int} (h : 1 ≤ many) (h' : many ≤ 12) : g_check_many [.int many] = .ret .non := by
  simp [g_check_many, mkFn, m_check_many, b_check_many, startM, v_is_integer, h, h', lf]
structure CaseOk (many : Int) (ws : List Wash) (least most : Int) : Prop where
  m1 : 1 ≤ many
  m2 : many ≤ 12
  few : ws.length ≤ 30
  ok : ∀ w ∈ ws, LoadOk many w.1
  l0 : 0 ≤ least
  lm : least ≤ most
  m3 : most ≤ 3
  mm : most ≤ many
theorem v_check_case {many least most : Int} {ws : List Wash} (h : CaseOk many ws least most) : g_check_case [.int many, .tup (ws.map wD), .int least, .int most] = .ret .non := by
  have hf : (ws.length : Int) ≤ 30 := by have := h.few; omega
  have e1 : (least ≤ many ∧ least ≤ 3) := ⟨by have := h.lm; have := h.mm; omega, by have := h.lm; have := h.m3; omega⟩
  simp [g_check_case, mkFn, m_check_case, b_check_case, r_check_case_1, r_check_case_2, r_check_case_3, startM, v_check_many h.m1 h.m2, v_is_tuple, lf, hf]
  rw [comp_each (env1 := [some (false, .int many), some (false, .tup (ws.map wD)), some (false, .int least), some (false, .int most), none]) ws wD (fun _ => .bl true)]
  · simp [wipeE, backE]
    rw [show (ws.map fun _ => D.bl true) = (ws.map fun _ => true).map .bl by simp, allD_bls]
    simp [v_is_integer, lf, h.l0, h.lm, h.mm, h.m3, e1]
    have := h.lm
    have := h.mm
    have := h.m3
    rw [if_neg (by omega), if_neg (by omega)]
  · simp
  · simp [free1]
  · intro w m
    simp [wipeE, v_is_wash (h.ok w m), lf]

/-! ### the sets -/
def grow (most : Int) (L : List (List Int)) (lot : Int) : List (List Int) := L ++ (L.filter fun s => decide ((s.length : Int) < most)).map (· ++ [lot])
def found (many : Nat) (most : Int) : List (List Int) := (List.range many).foldl (fun L (i : Nat) => grow most L i) [[]]
abbrev setsBody : MS := (sDrop (eMut gExtend 3 (hCons (eComp [5] (iSeq (eCall (hCons (eVar 3) hNil) (g1 listD))) (gNm 5) (mTest (eOp gLt (eCall (hCons (eVar 5) hNil) (g1 lenD)) (eVar 2))) (eTup (hFew (hStar (eVar 5) (hCons (eVar 4) hNil))))) hNil)))
theorem grow_len (most : Int) (L : List (List Int)) (lot : Int) : (grow most L lot).length ≤ 2 * L.length := by
  unfold grow
  have := List.length_filter_le (fun s : List Int => decide ((s.length : Int) < most)) L
  simp only [List.length_append, List.length_map]
  omega
theorem grow_short {most : Int} {L : List (List Int)} {lot : Int} {k : Nat} (h : ∀ s ∈ L, s.length ≤ k) : ∀ s ∈ grow most L lot, s.length ≤ k + 1 := by
  intro s m
  unfold grow at m
  rcases List.mem_append.mp m with m | m
  · have := h s m; omega
  · obtain ⟨t, mt, rfl⟩ := List.mem_map.mp m
    have := h t (List.mem_filter.mp mt).1
    simp; omega
theorem sets_step {a b : Slot} {most : Int} {L : List (List Int)} {lot : Int} {x5 : Slot} (hx : x5 = none) (h1 : L.length ≤ 100000) (h2 : ∀ s ∈ L, s.length ≤ 1000) :
    setsBody [a, b, some (false, .int most), some (true, .lst (L.map row)), some (false, .int lot), x5] = .ret (.nx, [a, b, some (false, .int most), some (true, .lst ((grow most L lot).map row)), some (false, .int lot), x5]) := by
  subst hx
  simp [setsBody, eMut]
  rw [comp_map (env1 := [a, b, some (false, .int most), some (true, .lst (L.map row)), some (false, .int lot), none]) L row (fun s => decide ((s.length : Int) < most)) (fun s => row (s ++ [lot]))]
  · simp [wipeE, backE, gExtend]
    have := List.length_filter_le (fun s : List Int => decide ((s.length : Int) < most)) L
    rw [if_pos (by omega)]
    simp [grow]
  · simp
  · simp [free1]
  · intro s m
    have := h2 s m
    simp [wipeE]
    by_cases hs : (s.length : Int) < most
    · simp [hs, hFew, hStar]
      rw [if_pos (by omega)]
      simp [fzs_snoc]
    · simp [hs]
theorem sets_loop {a b : Slot} {most : Int} : ∀ (lots : List Nat) (L : List (List Int)) (k : Nat) (x4 : Slot), L.length ≤ 2 ^ k → (∀ s ∈ L, s.length ≤ k) → k + lots.length ≤ 13 →
    ∃ x4', forL (gNm 4) setsBody (lots.map fun i : Nat => D.int i) [a, b, some (false, .int most), some (true, .lst (L.map row)), x4, none] =
      .ret (.nx, [a, b, some (false, .int most), some (true, .lst ((lots.foldl (fun L (i : Nat) => grow most L i) L).map row)), x4', none])
  | [], L, k, x4, _, _, _ => ⟨x4, rfl⟩
  | i :: lots, L, k, x4, h1, h2, h3 => by
    simp only [List.length_cons] at h3
    have hk : 2 ^ k ≤ 2 ^ 13 := Nat.pow_le_pow_right (by omega) (by omega)
    obtain ⟨x4', h⟩ := sets_loop (a := a) (b := b) (most := most) lots (grow most L i) (k + 1) (some (false, .int i)) (by have := grow_len most L i; rw [Nat.pow_succ]; omega) (grow_short h2) (by omega)
    refine ⟨x4', ?_⟩
    have hst := sets_step (a := a) (b := b) (most := most) (L := L) (lot := i) (x5 := none) rfl (by omega) (fun s m => by have := h2 s m; omega)
    have e0 : gNm 4 (.int i) [a, b, some (false, .int most), some (true, .lst (L.map row)), x4, none] = some [a, b, some (false, .int most), some (true, .lst (L.map row)), some (false, .int i), none] := by simp
    simp only [List.map_cons, forL, e0]
    rw [hst]
    exact h
theorem found_len (most : Int) : ∀ (lots : List Nat) (L : List (List Int)) (k : Nat), L.length ≤ 2 ^ k → (∀ s ∈ L, s.length ≤ k) → (lots.foldl (fun L (i : Nat) => grow most L i) L).length ≤ 2 ^ (k + lots.length) ∧ ∀ s ∈ lots.foldl (fun L (i : Nat) => grow most L i) L, s.length ≤ k + lots.length
  | [], L, k, h1, h2 => ⟨h1, h2⟩
  | i :: lots, L, k, h1, h2 => by
    have := found_len most lots (grow most L i) (k + 1) (by have := grow_len most L i; rw [Nat.pow_succ]; omega) (grow_short h2)
    simp only [List.foldl_cons, List.length_cons]
    rw [show k + (lots.length + 1) = k + 1 + lots.length by omega]
    exact this
def setsOf (many : Nat) (least most : Int) : List (List Int) := srt ((found many most).filter fun s => decide (least ≤ (s.length : Int)))
theorem v_sets_of {many : Nat} {least most : Int} (h : many ≤ 12) : g_sets_of [.int many, .int least, .int most] = .ret (.lst ((setsOf many least most).map row)) := by
  obtain ⟨x4', hl⟩ := sets_loop (a := some (false, .int many)) (b := some (false, .int least)) (most := most) (List.range many) [[]] 0 none (by simp) (by simp) (by simp; omega)
  have e0 : startM 6 [.int many, .int least, .int most] = [some (false, .int many), some (false, .int least), some (false, .int most), none, none, none] := by simp [startM, List.replicate]
  have e1 : sSet 3 (eLst (hCons (eTup hNil) hNil)) [some (false, .int many), some (false, .int least), some (false, .int most), none, none, none] = .ret (.nx, [some (false, .int many), some (false, .int least), some (false, .int most), some (true, .lst ([[]].map row)), none, none]) := by simp
  have e2 : iRng (hCons (eVar 0) hNil) [some (false, .int many), some (false, .int least), some (false, .int most), some (true, .lst ([[]].map row)), none, none] = .ret ((List.range many).map fun i : Nat => D.int i, [some (false, .int many), some (false, .int least), some (false, .int most), some (true, .lst ([[]].map row)), none, none]) := by
    exact iRng1_of (by simp) (by omega)
  refine mkFn_ret rfl (e := [some (false, .int many), some (false, .int least), some (false, .int most), some (false, .lst ((found many most).map row)), x4', none]) ?_
  rw [e0]
  unfold m_sets_of b_sets_of f_sets_of_1
  rw [sSeq_e, e1, T.ret_bind, sqK_nx, sSeq_e, sFor_e, e2, T.ret_bind]
  dsimp only
  rw [hl, T.ret_bind, sqK_nx, sRet_e, eCall_e, hCons_e]
  rw [comp_map (env1 := [some (false, .int many), some (false, .int least), some (false, .int most), some (false, .lst ((found many most).map row)), x4', none]) (found many most) row (fun s => decide (least ≤ (s.length : Int))) row]
  · simp [wipeE, backE, setsOf]
  · simp [found]
  · simp [free1]
  · intro s m
    simp [wipeE]
    by_cases hs : least ≤ (s.length : Int) <;> simp [hs]
end Mi.K17
set_option Elab.async false
set_option linter.all false
set_option maxRecDepth 100000
set_option maxHeartbeats 4000000
namespace Mi.K17
open PySem PySem.Spec PyProof.Rows L2 Mi

def hitB (s load : List Int) : Bool := load.any fun x => memI s x
def fitB (s : List Int) (w : Wash) : Bool := hitB s w.1 == w.2
theorem bls_of {α : Type} (xs : List α) (f : α → Bool) : xs.map (fun x => D.bl (f x)) = (xs.map f).map .bl := by simp
theorem v_fits (s : List Int) (w : Wash) : g_fits [row s, wD w] = .ret (.bl (fitB s w)) := by
  simp [g_fits, mkFn, m_fits, b_fits, startM, wD]
  rw [comp_each (env1 := [some (false, row s), some (false, .tup [row w.1, .bl w.2]), none]) w.1 D.int (fun x => .bl (memI s x))]
  · simp [wipeE, backE, fitB, anyD_map]
    rfl
  · simp
  · simp [free1]
  · intro x _
    simp [wipeE]
def leftOf (many : Nat) (ws : List Wash) (least most : Int) : List (List Int) := (setsOf many least most).filter fun s => ws.all (fitB s)
theorem a_left_of {gf gs : List D → T D} {m a b : D} {ws : List Wash} {ss : List (List Int)} (hs : gs [m, a, b] = .ret (.lst (ss.map row))) (hf : ∀ s w, gf [row s, wD w] = .ret (.bl (fitB s w))) :
    mkFn 6 4 (b_left_of gf gs) [m, .tup (ws.map wD), a, b] = .ret (.lst ((ss.filter fun s => ws.all (fitB s)).map row)) := by
  unfold b_left_of
  simp [mkFn, startM]
  rw [comp_map (env1 := [some (false, m), some (false, .tup (ws.map wD)), some (false, a), some (false, b), none, none]) ss row (fun s => ws.all (fitB s)) row]
  · simp [wipeE, backE]
  · simp [hs]
  · simp [free1]
  · intro s _
    simp [wipeE]
    rw [comp_each (env1 := [some (false, m), some (false, .tup (ws.map wD)), some (false, a), some (false, b), some (false, row s), none]) ws wD (fun w => .bl (fitB s w))]
    · simp [wipeE, backE, allD_map]
      cases hf : ws.all (fitB s) <;> simp
    · simp
    · simp [free1]
    · intro w _
      simp [wipeE, hf, lf]
theorem v_left_of {many : Nat} {ws : List Wash} {least most : Int} (h : many ≤ 12) : g_left_of [.int many, .tup (ws.map wD), .int least, .int most] = .ret (.lst ((leftOf many ws least most).map row)) :=
  a_left_of (v_sets_of h) v_fits
theorem a_may_have {gc gl : List D → T D} {m ws a b : D} {l : List D} (hc : gc [m, ws, a, b] = .ret .non) (hl : gl [m, ws, a, b] = .ret (.lst l)) :
    mkFn 4 4 (b_may_have gc gl) [m, ws, a, b] = .ret (.tup l) := by
  unfold b_may_have
  simp [mkFn, startM, hc, hl]
theorem v_may_have {many : Nat} {ws : List Wash} {least most : Int} (c : CaseOk many ws least most) (h : many ≤ 12) : g_may_have [.int many, .tup (ws.map wD), .int least, .int most] = .ret (.tup ((leftOf many ws least most).map row)) :=
  a_may_have (v_check_case c) (v_left_of h)
end Mi.K17
set_option Elab.async false
set_option linter.all false
set_option maxRecDepth 100000
set_option maxHeartbeats 4000000
namespace Mi.K17
open PySem PySem.Spec PyProof.Rows L2 Mi

/-! ### words -/
def word1 (ss : List (List Int)) (i : Nat) : D := if ss.all (fun s => memI s i) then .str [115, 117, 114, 101] else if ss.any (fun s => memI s i) then .str [111, 112, 101, 110] else .str [110, 101, 118, 101, 114]
def wordsOf (many : Nat) (ss : List (List Int)) : List D := (List.range many).map (word1 ss)
def envW (a : Slot) (ss : List (List Int)) (pre : List Nat) : Ev := [a, some (false, .lst (ss.map row)), some (true, .lst (pre.map (word1 ss))), lastS (fun i : Nat => (false, D.int i)) pre, lastS (fun i : Nat => (true, .lst (ss.map fun s => .bl (memI s i)))) pre, none]
theorem words_body {a : Slot} {ss : List (List Int)} {pre : List Nat} {i : Nat} (h : pre.length < 1000) : ∃ e', gNm 3 (.int i) (envW a ss pre) = some e' ∧ f_words_of_1 e' = .ret (.nx, envW a ss (pre ++ [i])) := by
  refine ⟨_, by simp [envW]; rfl, ?_⟩
  simp [f_words_of_1]
  rw [comp_each (env1 := [a, some (false, .lst (ss.map row)), some (true, .lst (pre.map (word1 ss))), some (false, .int i), lastS (fun i : Nat => (true, .lst (ss.map fun s => .bl (memI s i)))) pre, none]) ss row (fun s => .bl (memI s i))]
  · simp [wipeE, backE, allD_map, anyD_map, envW]
    have hp : (pre.map (word1 ss)).length < 16777216 := by simp; omega
    by_cases h1 : ∀ x, x ∈ ss → memI x i = true
    · simp [append_e hp, word1]
      rw [if_pos h1, if_pos h1]
    · by_cases h2 : ∃ x, x ∈ ss ∧ memI x i = true
      · simp [append_e hp, word1]
        rw [if_neg h1, if_pos h2, if_neg h1, if_pos h2]
      · simp [append_e hp, word1]
        rw [if_neg h1, if_neg h2, if_neg h1, if_neg h2]
  · simp
  · simp [free1]
  · intro s _
    simp [wipeE]
theorem v_words_of {many : Nat} {ss : List (List Int)} (h : many ≤ 12) : g_words_of [.int many, .lst (ss.map row)] = .ret (.tup (wordsOf many ss)) := by
  have e1 : forL (gNm 3) f_words_of_1 ((List.range many).map fun i : Nat => D.int i) [some (false, .int many), some (false, .lst (ss.map row)), some (true, .lst []), none, none, none] = .ret (.nx, envW (some (false, .int many)) ss (List.range many)) :=
    forL_of (envW (some (false, .int many)) ss) (by simp [envW]) fun p x q hp => words_body (by have := pre_lt hp; simp at this; omega)
  have e2 : iRng (hCons (eVar 0) hNil) [some (false, .int many), some (false, .lst (ss.map row)), some (true, .lst []), none, none, none] = .ret ((List.range many).map fun i : Nat => D.int i, [some (false, .int many), some (false, .lst (ss.map row)), some (true, .lst []), none, none, none]) :=
    iRng1_of (by simp) (by omega)
  unfold g_words_of m_words_of b_words_of
  simp -implicitDefEqProofs [mkFn, startM, -iRng_e]
  rw [e2]
  simp -implicitDefEqProofs [e1]
  simp [envW, wordsOf]
theorem a_told {gc gl gw : List D → T D} {m ws a b : D} {l : List (List Int)} {w : List D} (hc : gc [m, ws, a, b] = .ret .non) (hl : gl [m, ws, a, b] = .ret (.lst (l.map row))) (hw : gw [m, .lst (l.map row)] = .ret (.tup w)) :
    mkFn 5 4 (b_told gc gl gw) [m, ws, a, b] = .ret (if l = [] then .non else .tup w) := by
  unfold b_told
  simp -implicitDefEqProofs [mkFn, startM, hc, hl, hw]
  by_cases h : l = [] <;> simp -implicitDefEqProofs [h, hw]
/-! ### the first wrong wash -/
def fw (ss : List (List Int)) : List Wash → Nat → Option Nat
  | [], _ => none
  | w :: ws, k => if ss.filter (fun s => fitB s w) = [] then some k else fw (ss.filter fun s => fitB s w) ws (k + 1)
def optD : Option Nat → D
  | none => .non
  | some k => .int k
theorem fw_loop {gc gf gs : List D → T D} (hf : ∀ s w, gf [row s, wD w] = .ret (.bl (fitB s w))) {a b c d : Slot} : ∀ (ws : List Wash) (k : Nat) (ss : List (List Int)) (x5 x6 : Slot) (q4 : Bool), ∃ e',
    forL (gTp 2 (gsCons (gNm 5) (gsCons (gNm 6) gsNil))) (f_first_wrong_1 gc gf gs) ((ws.zipIdx k).map fun z => .tup [.int z.2, wD z.1]) [a, b, c, d, some (q4, .lst (ss.map row)), x5, x6, none] = .ret (match fw ss ws k with | none => (.nx, e') | some j => (.rt (.int j), e'))
  | [], k, ss, x5, x6, q4 => ⟨_, rfl⟩
  | w :: ws, k, ss, x5, x6, q4 => by
    have hb : ∃ e', f_first_wrong_1 gc gf gs [a, b, c, d, some (q4, .lst (ss.map row)), some (false, .int k), some (false, wD w), none] = .ret (if ss.filter (fun s => fitB s w) = [] then (.rt (.int k), e') else (.nx, [a, b, c, d, some (true, .lst ((ss.filter fun s => fitB s w).map row)), some (false, .int k), some (false, wD w), none])) := by
      refine ⟨[a, b, c, d, some (true, .lst ((ss.filter fun s => fitB s w).map row)), some (false, .int k), some (false, wD w), none], ?_⟩
      unfold f_first_wrong_1
      simp -implicitDefEqProofs
      rw [comp_map (env1 := [a, b, c, d, some (false, .lst (ss.map row)), some (false, .int k), some (false, wD w), none]) ss row (fun s => fitB s w) row]
      · simp -implicitDefEqProofs [wipeE, backE]
        split <;> rfl
      · cases q4 <;> simp -implicitDefEqProofs
      · simp [free1]
      · intro s _
        simp -implicitDefEqProofs [wipeE, hf]
        cases fitB s w <;> simp
    obtain ⟨e1, hb⟩ := hb
    have hg : gTp 2 (gsCons (gNm 5) (gsCons (gNm 6) gsNil)) (.tup [.int k, wD w]) [a, b, c, d, some (q4, .lst (ss.map row)), x5, x6, none] = some [a, b, c, d, some (q4, .lst (ss.map row)), some (false, .int k), some (false, wD w), none] := by simp
    obtain ⟨e2, h2⟩ := fw_loop (gc := gc) (gs := gs) hf (a := a) (b := b) (c := c) (d := d) ws (k + 1) (ss.filter fun s => fitB s w) (some (false, .int k)) (some (false, wD w)) true
    by_cases h : ss.filter (fun s => fitB s w) = []
    · refine ⟨e1, ?_⟩
      simp only [List.zipIdx_cons, List.map_cons, forL, hg, hb, fw]
      rw [if_pos h, if_pos h]
      rfl
    · refine ⟨e2, ?_⟩
      simp only [List.zipIdx_cons, List.map_cons, forL, hg, hb, fw]
      rw [if_neg h, if_neg h, T.ret_bind]
      exact h2
theorem a_first_wrong {gc gf gs : List D → T D} {m a b : D} {ws : List Wash} {ss : List (List Int)} (hf : ∀ s w, gf [row s, wD w] = .ret (.bl (fitB s w))) (hc : gc [m, .tup (ws.map wD), a, b] = .ret .non) (hs : gs [m, a, b] = .ret (.lst (ss.map row))) :
    mkFn 8 4 (b_first_wrong gc gf gs) [m, .tup (ws.map wD), a, b] = .ret (optD (fw ss ws 0)) := by
  obtain ⟨e', h⟩ := fw_loop (gc := gc) (gs := gs) hf (a := some (false, m)) (b := some (false, .tup (ws.map wD))) (c := some (false, a)) (d := some (false, b)) ws 0 ss none none false
  unfold b_first_wrong r_first_wrong_1 r_first_wrong_2 r_first_wrong_3
  have e : enumL 0 (ws.map wD) = (ws.zipIdx 0).map fun z => .tup [.int z.2, wD z.1] := by
    rw [enumL_zip, List.zipIdx_map, List.map_map]
    refine List.map_congr_left fun z _ => ?_
    rfl
  simp -implicitDefEqProofs [mkFn, startM, hc, hs]
  simp -implicitDefEqProofs only [e, h]
  cases fw ss ws 0 <;> simp -implicitDefEqProofs [optD]
end Mi.K17
set_option Elab.async false
set_option linter.all false
set_option maxRecDepth 100000
set_option maxHeartbeats 4000000
namespace Mi.K17
open PySem PySem.Spec PyProof.Rows L2 Mi

/-! ### the next load -/
def markI (l : List Int) : Nat := (l.map fun x => 2 ^ x.toNat).sum
theorem sum_cast : ∀ l : List Int, (l.map fun x => (2 : Int) ^ x.toNat).sum = (markI l : Int)
  | [] => rfl
  | x :: l => by
    have := sum_cast l
    simp only [markI, List.map_cons, List.sum_cons] at this ⊢
    rw [this]
    push_cast
    rfl
/-- ascending, none below 0 -/
def Asc (l : List Int) : Prop := l.Pairwise (· < ·) ∧ ∀ x ∈ l, 0 ≤ x
theorem mark_snoc (l : List Int) (x : Int) : markI (l ++ [x]) = markI l + 2 ^ x.toNat := by simp [markI]
theorem mark_bit : ∀ (n : Nat) (l : List Int), l.length = n → Asc l → (∀ y : Nat, (∀ z ∈ l, z < (y : Int)) → markI l < 2 ^ y) ∧ ∀ i : Nat, (markI l).testBit i = true ↔ (i : Int) ∈ l
  | 0, l, h, _ => by
    have : l = [] := List.length_eq_zero_iff.mp h
    subst this
    exact ⟨fun y _ => by simp [markI]; exact Nat.two_pow_pos y, fun i => by simp [markI]⟩
  | n + 1, l, h, ⟨ha, hp⟩ => by
    obtain ⟨p, x, rfl⟩ : ∃ p x, l = p ++ [x] := by
      rcases List.eq_nil_or_concat l with e | ⟨p, x, e⟩
      · rw [e] at h; cases h
      · exact ⟨p, x, by rw [e]; simp⟩
    have hx0 : 0 ≤ x := hp x (by simp)
    rw [List.pairwise_append] at ha
    have hlt : ∀ z ∈ p, z < x := fun z m => ha.2.2 z m x (by simp)
    obtain ⟨i1, i2⟩ := mark_bit n p (by simpa using h) ⟨ha.1, fun z m => hp z (by simp [m])⟩
    have hb := i1 x.toNat (fun z m => by have := hlt z m; omega)
    rw [mark_snoc]
    refine ⟨fun y hy => ?_, fun i => ?_⟩
    · have hxy : x.toNat + 1 ≤ y := by have := hy x (by simp); omega
      have : 2 ^ (x.toNat + 1) ≤ 2 ^ y := Nat.pow_le_pow_right (by omega) hxy
      rw [Nat.pow_succ] at this
      omega
    · rw [Nat.add_comm]
      rcases Nat.lt_trichotomy i x.toNat with hi | hi | hi
      · rw [Nat.testBit_two_pow_add_gt hi, i2 i]
        simp
        omega
      · subst hi
        rw [Nat.testBit_two_pow_add_eq, Nat.testBit_lt_two_pow hb]
        simp
        right; omega
      · have : 2 ^ x.toNat + markI p < 2 ^ i := by
          have : 2 ^ (x.toNat + 1) ≤ 2 ^ i := Nat.pow_le_pow_right (by omega) hi
          rw [Nat.pow_succ] at this
          omega
        rw [Nat.testBit_lt_two_pow this]
        simp
        refine ⟨fun m => ?_, by omega⟩
        have := hlt _ m
        omega
theorem land_hit {s l : List Int} (hs : Asc s) (hl : Asc l) : ((markI s &&& markI l) != 0) = hitB s l := by
  rw [Bool.eq_iff_iff]
  have e1 := (mark_bit _ s rfl hs).2
  have e2 := (mark_bit _ l rfl hl).2
  simp only [bne_iff_ne, ne_eq, hitB, List.any_eq_true, memI_iff]
  constructor
  · intro h
    obtain ⟨i, hi⟩ := Nat.exists_testBit_of_ne_zero h
    rw [Nat.testBit_and, Bool.and_eq_true] at hi
    exact ⟨i, (e2 i).mp hi.2, (e1 i).mp hi.1⟩
  · rintro ⟨x, m, m'⟩ h
    have h0 : (markI s &&& markI l).testBit x.toNat = true := by
      have hx := hs.2 x m'
      rw [Nat.testBit_and, (e1 x.toNat).mpr (by rwa [Int.toNat_of_nonneg hx]), (e2 x.toNat).mpr (by rwa [Int.toNat_of_nonneg hx])]
      rfl
    rw [h] at h0
    simp at h0
def worst (ss : List (List Int)) (l : List Int) : Int := max ((ss.filter fun s => hitB s l).length : Int) ((ss.length : Int) - ((ss.filter fun s => hitB s l).length : Int))
abbrev bestD (ss : List (List Int)) (l : List Int) : D := .tup [.int (worst ss l), row l]
def Best (ss : List (List Int)) (p : List (List Int)) (d : D) : Prop := (p = [] ∧ d = .non) ∨ ∃ l ∈ p, d = bestD ss l ∧ ∀ l' ∈ p, worst ss l ≤ worst ss l'
def envN (q : Bool) (a b c d : Slot) (ss : List (List Int)) (bd : D) (x6 x7 x8 x9 : Slot) : Ev := [a, b, c, d, some (q, .lst (ss.map fun s => .int (markI s : Int))), some (false, bd), x6, x7, x8, x9, none, none]
theorem sum_mark {env env' : Ev} {l : List Int} {src : M} {k : Nat} : True := trivial
theorem shl_comp {v : Nat} {src : MI} {env env1 : Ev} {l : List Int} (hs : src env = .ret (l.map .int, env1)) (hv : free1 env1 v = true) (hl : ∀ x ∈ l, 0 ≤ x ∧ x < 1000) (hn : v < env1.length) :
    eComp [v] src (gNm v) mYes (eOp (gI iShl) (eC (.int 1)) (eVar v)) env = .ret (.tmp (.lst (l.map fun x => .int ((2 ^ x.toNat : Nat) : Int))), backE (wipeE env1 [v]) env1 [v]) := by
  rw [comp_each (env1 := env1) l D.int (fun x => .int ((2 ^ x.toNat : Nat) : Int)) hs (by simp [hv])]
  intro x m
  obtain ⟨h0, h1⟩ := hl x m
  obtain ⟨j, rfl⟩ : ∃ j : Nat, x = j := ⟨x.toNat, by omega⟩
  have := iShl_1 (j := j) (by omega)
  simp -implicitDefEqProofs [wipeE, hn, this]
theorem best_step {ss p : List (List Int)} {l : List Int} {bd : D} (hb : Best ss p bd) : ∃ c1 c2 : Bool, gIs bd .non = some (.val (.bl c1)) ∧ (c1 = false → gLt (bestD ss l) bd = some (.val (.bl c2))) ∧ Best ss (p ++ [l]) (if c1 || c2 then bestD ss l else bd) := by
  rcases hb with ⟨rfl, rfl⟩ | ⟨k, hk, rfl, hm⟩
  · refine ⟨true, false, rfl, by simp, .inr ⟨l, by simp, by simp, by simp⟩⟩
  · obtain ⟨c, e, h1, h2⟩ := lt_pair (w := worst ss l) (w' := worst ss k) (a := l) (b := k)
    refine ⟨false, c, rfl, fun _ => e, ?_⟩
    cases c with
    | true =>
      refine .inr ⟨l, by simp, by simp, fun l' m => ?_⟩
      have := h1 rfl
      rcases List.mem_append.mp m with m | m
      · have := hm l' m; omega
      · simp at m; subst m; omega
    | false =>
      refine .inr ⟨k, by simp [hk], by simp, fun l' m => ?_⟩
      have := h2 rfl
      rcases List.mem_append.mp m with m | m
      · exact hm l' m
      · simp at m; subst m; omega
theorem next_body {gc gl gs : List D → T D} {q : Bool} {a b c d x6 x7 x8 x9 : Slot} {ss : List (List Int)} {bd : D} {p : List (List Int)} {l : List Int} (hss : ∀ s ∈ ss, Asc s) (hl : Asc l) (hl' : ∀ x ∈ l, x < 1000) (hb : Best ss p bd) :
    ∃ e', gNm 6 (row l) (envN q a b c d ss bd x6 x7 x8 x9) = some e' ∧ ∃ bd' x6' x7' x8' x9', f_next_load_1 gc gl gs e' = .ret (.nx, envN false a b c d ss bd' x6' x7' x8' x9') ∧ Best ss (p ++ [l]) bd' := by
  refine ⟨_, by simp [envN]; rfl, ?_⟩
  obtain ⟨c1, c2, hi1, hi2, hb'⟩ := best_step (l := l) hb
  unfold f_next_load_1
  simp -implicitDefEqProofs
  rw [shl_comp (env1 := [a, b, c, d, some (q, .lst (ss.map fun s => .int (markI s : Int))), some (false, bd), some (false, row l), x7, x8, x9, none, none]) (l := l) (by simp -implicitDefEqProofs) rfl (fun x m => ⟨hl.2 x m, hl' x m⟩) (by simp)]
  simp -implicitDefEqProofs [wipeE, backE, sumD_map, sum_cast]
  rw [comp_map (env1 := [a, b, c, d, some (false, .lst (ss.map fun s => .int (markI s : Int))), some (false, bd), some (false, row l), some (false, .int (markI l)), x8, x9, none, none]) ss (fun s => .int (markI s : Int)) (fun s => hitB s l) (fun s => .int (markI s : Int))]
  · simp -implicitDefEqProofs [wipeE, backE, hi1]
    refine ⟨_, ⟨some (false, row l), some (false, .int (markI l)), some (false, .int ((ss.filter fun s => hitB s l).length : Int)), some (false, .int (worst ss l)), ?_⟩, hb'⟩
    cases c1 with
    | true => simp -implicitDefEqProofs [envN, worst]
    | false =>
      have := hi2 rfl
      unfold bestD worst at this
      simp -implicitDefEqProofs [this]
      cases c2 <;> simp -implicitDefEqProofs [envN, worst]
  · cases q <;> simp -implicitDefEqProofs
  · simp [free1]
  · intro s m
    have := land_hit (hss s m) hl
    have e : (((markI s &&& markI l : Nat) : Int) == 0) = ((markI s &&& markI l) == 0) := by
      rw [Bool.eq_iff_iff]; simp
    simp -implicitDefEqProofs [wipeE, iAnd, land_nat, e]
    rw [← this]
    by_cases h : (markI s &&& markI l) = 0 <;> simp [h]
theorem a_next_load {gc gl gs : List D → T D} {m ws a b : D} {ss ls : List (List Int)} (hc : gc [m, ws, a, b] = .ret .non) (hl : gl [m, ws, a, b] = .ret (.lst (ss.map row))) (hs : gs [m, .int 1, m] = .ret (.lst (ls.map row)))
    (hss : ∀ s ∈ ss, Asc s ∧ ∀ x ∈ s, x < 1000) (hls : ∀ s ∈ ls, Asc s ∧ ∀ x ∈ s, x < 1000) (hne : ls ≠ []) :
    (mkFn 12 4 (b_next_load gc gl gs) [m, ws, a, b]).lim 0 fun d => ∃ l ∈ ls, d = bestD ss l ∧ ∀ l' ∈ ls, worst ss l ≤ worst ss l' := by
  refine mkFn_lim rfl ?_
  unfold b_next_load r_next_load_1 r_next_load_2 r_next_load_3
  simp -implicitDefEqProofs [startM, hc, hl]
  have hcm : (eComp [10] (iSeq (eDef gl (hCons (eVar 0) (hCons (eVar 1) (hCons (eVar 2) (hCons (eVar 3) hNil)))))) (gNm 10) mYes (eCall (hCons (eComp [11] (iSeq (eVar 10)) (gNm 11) mYes (eOp (gI iShl) (eC (.int 1)) (eVar 11))) hNil) (g1 sumD))) [some (false, m), some (false, ws), some (false, a), some (false, b), none, none, none, none, none, none, none, none] = .ret (.tmp (.lst (ss.map fun s => .int (markI s : Int))), [some (false, m), some (false, ws), some (false, a), some (false, b), none, none, none, none, none, none, none, none]) := by
    rw [comp_each (env1 := [some (false, m), some (false, ws), some (false, a), some (false, b), none, none, none, none, none, none, none, none]) ss row (fun s => .int (markI s : Int))]
    · simp -implicitDefEqProofs [wipeE, backE]
    · simp -implicitDefEqProofs [hl]
    · simp [free1]
    · intro s hs'
      simp -implicitDefEqProofs [wipeE]
      rw [shl_comp (env1 := [some (false, m), some (false, ws), some (false, a), some (false, b), none, none, none, none, none, none, some (false, row s), none]) (l := s) (by simp -implicitDefEqProofs) rfl (fun x m => ⟨(hss s hs').1.2 x m, (hss s hs').2 x m⟩) (by simp)]
      simp -implicitDefEqProofs [wipeE, backE, sumD_map, sum_cast]
  rw [hcm]
  simp -implicitDefEqProofs [unslot, puts, hs]
  refine T.lim_then (forL_lim (f := row) (n := 0) (fun p e => ∃ q bd x6 x7 x8 x9, e = envN q (some (false, m)) (some (false, ws)) (some (false, a)) (some (false, b)) ss bd x6 x7 x8 x9 ∧ Best ss p bd) ls [] _ ?_ ?_) (Nat.le_of_eq (Nat.mul_zero _)) ?_
  · intro p l q' e hp ⟨q, bd, x6, x7, x8, x9, he, hb⟩
    subst he
    have hml : l ∈ ls := by
      have : l ∈ p ++ l :: q' := by simp
      rwa [← hp, List.nil_append] at this
    obtain ⟨e', h1, bd', x6', x7', x8', x9', h2, h3⟩ := next_body (gc := gc) (gl := gl) (gs := gs) (q := q) (a := some (false, m)) (b := some (false, ws)) (c := some (false, a)) (d := some (false, b)) (x6 := x6) (x7 := x7) (x8 := x8) (x9 := x9) (fun s hs => (hss s hs).1) (hls l hml).1 (hls l hml).2 hb
    refine ⟨e', h1, ?_⟩
    rw [h2, T.lim_ret]
    exact ⟨rfl, _, _, _, _, _, _, rfl, h3⟩
  · exact ⟨true, .non, none, none, none, none, rfl, .inl ⟨rfl, rfl⟩⟩
  · rintro ⟨fl, e⟩ ⟨h1, q, bd, x6, x7, x8, x9, he, hb⟩
    dsimp only at h1 he
    subst h1 he
    rcases hb with ⟨e0, _⟩ | ⟨l, hm, e0, hw⟩
    · exact (hne (by simpa using e0)).elim
    · subst e0
      simp -implicitDefEqProofs [envN]
      exact ⟨l, by simpa using hm, ⟨rfl, rfl⟩, fun l' m => hw l' (by simpa using m)⟩
end Mi.K17
set_option Elab.async false
set_option linter.all false
set_option maxRecDepth 100000
set_option maxHeartbeats 4000000
namespace Mi.K17
open PySem PySem.Spec PyProof.Rows L2 Mi

/-- ascending numbers below so many -/
def Sub (n : Nat) (l : List Int) : Prop := Asc l ∧ ∀ x ∈ l, x < (n : Int)
theorem found_succ (n : Nat) (most : Int) : found (n + 1) most = grow most (found n most) n := by
  unfold found
  rw [List.range_succ, List.foldl_append]
  rfl
theorem snoc_of {l : List Int} (h : l ≠ []) : ∃ p x, l = p ++ [x] := by
  rcases List.eq_nil_or_concat l with e | ⟨p, x, e⟩
  · exact (h e).elim
  · exact ⟨p, x, by rw [e]; simp⟩
theorem asc_snoc {p : List Int} {x : Int} : Asc (p ++ [x]) ↔ Asc p ∧ (∀ y ∈ p, y < x) ∧ 0 ≤ x := by
  unfold Asc
  rw [List.pairwise_append]
  constructor
  · rintro ⟨⟨a, _, b⟩, c⟩
    exact ⟨⟨a, fun y m => c y (by simp [m])⟩, fun y m => b y m x (by simp), c x (by simp)⟩
  · rintro ⟨⟨a, b⟩, c, d⟩
    refine ⟨⟨a, by simp, fun y m z m' => by simp at m'; subst m'; exact c y m⟩, fun y m => ?_⟩
    rcases List.mem_append.mp m with m | m
    · exact b y m
    · simp at m; omega
theorem mem_found (most : Int) : ∀ (n : Nat) (s : List Int), s ∈ found n most ↔ Sub n s ∧ ((s.length : Int) ≤ most ∨ s = [])
  | 0, s => by
    have e : found 0 most = [[]] := rfl
    rw [e]
    simp only [List.mem_singleton]
    constructor
    · rintro rfl
      exact ⟨⟨⟨.nil, by simp⟩, by simp⟩, .inr rfl⟩
    · rintro ⟨⟨⟨_, h0⟩, h1⟩, _⟩
      cases s with
      | nil => rfl
      | cons x s => have := h0 x (by simp); have := h1 x (by simp); simp at *; omega
  | n + 1, s => by
    rw [found_succ]
    unfold grow
    rw [List.mem_append, List.mem_map]
    constructor
    · rintro (h | ⟨t, h, rfl⟩)
      · obtain ⟨⟨a, b⟩, c⟩ := (mem_found most n s).mp h
        exact ⟨⟨a, fun x m => by have := b x m; omega⟩, c⟩
      · obtain ⟨h, l⟩ := List.mem_filter.mp h
        obtain ⟨⟨a, b⟩, c⟩ := (mem_found most n t).mp h
        simp at l
        refine ⟨⟨asc_snoc.mpr ⟨a, b, by omega⟩, fun x m => ?_⟩, .inl (by simp; omega)⟩
        rcases List.mem_append.mp m with m | m
        · have := b x m; omega
        · simp at m; omega
    · rintro ⟨⟨a, b⟩, c⟩
      by_cases hn : (n : Int) ∈ s
      · right
        obtain ⟨p, x, rfl⟩ := snoc_of (l := s) (by rintro rfl; simp at hn)
        obtain ⟨a1, a2, a3⟩ := asc_snoc.mp a
        have hx : x = n := by
          have := b x (by simp)
          rcases List.mem_append.mp hn with m | m
          · have := a2 _ m; omega
          · simp at m; omega
        subst hx
        refine ⟨p, List.mem_filter.mpr ⟨(mem_found most n p).mpr ⟨⟨a1, a2⟩, .inl ?_⟩, ?_⟩, rfl⟩
        · rcases c with c | c
          · simp at c; omega
          · simp at c
        · rcases c with c | c
          · simp at c ⊢; omega
          · simp at c
      · left
        refine (mem_found most n s).mpr ⟨⟨a, fun x m => ?_⟩, c⟩
        have := b x m
        have : x ≠ n := fun e => hn (e ▸ m)
        omega
theorem nodup_found (most : Int) : ∀ n : Nat, (found n most).Nodup
  | 0 => by show [[]].Nodup; simp
  | n + 1 => by
    rw [found_succ]
    unfold grow
    rw [List.nodup_append]
    refine ⟨nodup_found most n, ?_, ?_⟩
    · refine List.Pairwise.map _ (fun a b h e => h ?_) ((nodup_found most n).sublist List.filter_sublist)
      exact List.append_cancel_right e
    · rintro a ha b hb rfl
      obtain ⟨t, _, e⟩ := List.mem_map.mp hb
      have := ((mem_found most n a).mp ha).1.2 n (by rw [← e]; simp)
      omega
theorem asc_nodup {l : List Int} (h : Asc l) : l.Nodup := h.1.imp (fun h => by omega)
theorem asc_ext {a b : List Int} (ha : Asc a) (hb : Asc b) (h : ∀ x, x ∈ a ↔ x ∈ b) : a = b :=
  List.Perm.eq_of_pairwise (le := (· < ·)) (fun x y _ _ h1 h2 => by omega) ha.1 hb.1 ((List.perm_ext_iff_of_nodup (asc_nodup ha) (asc_nodup hb)).2 h)
theorem isrt_perm (l : List Int) : (isrt l).Perm l := List.mergeSort_perm _ _
theorem isrt_asc {l : List Int} (hn : l.Nodup) (h0 : ∀ x ∈ l, 0 ≤ x) : Asc (isrt l) := by
  have h1 : (isrt l).Pairwise fun a b => decide (a ≤ b) = true := List.pairwise_mergeSort (fun a b c h h' => by simp at *; omega) (fun a b => by simp; omega) l
  have h2 : (isrt l).Nodup := (isrt_perm l).nodup_iff.mpr hn
  refine ⟨?_, fun x m => h0 x ((isrt_perm l).mem_iff.mp m)⟩
  refine (h1.and h2).imp fun {a b} h => ?_
  have := h.1
  have := h.2
  simp at *
  omega
/-! ### the places of two halls' lots among one another -/
structure Pos (pos : Int → Int → Int) (z : Int → Nat) (many : Nat) : Prop where
  lo : ∀ (h i : Int), h = 0 ∨ h = 1 → 0 ≤ i → i < z h → 0 ≤ pos h i ∧ pos h i < many
  inj : ∀ (h i h' i' : Int), h = 0 ∨ h = 1 → 0 ≤ i → i < z h → h' = 0 ∨ h' = 1 → 0 ≤ i' → i' < z h' → pos h i = pos h' i' → h = h' ∧ i = i'
  sur : ∀ x, 0 ≤ x → x < (many : Int) → ∃ h i : Int, (h = 0 ∨ h = 1) ∧ 0 ≤ i ∧ i < z h ∧ pos h i = x
def put (pos : Int → Int → Int) (h : Int) (l : List Int) : List Int := isrt (l.map (pos h))
def both (pos : Int → Int → Int) (a b : List Int) : List Int := isrt (put pos 0 a ++ put pos 1 b)
def part (pos : Int → Int → Int) (z : Int → Nat) (h : Int) (s : List Int) : List Int := ((List.range (z h)).map fun i : Nat => (i : Int)).filter fun i => memI s (pos h i)
section
variable {pos : Int → Int → Int} {z : Int → Nat} {many : Nat} (P : Pos pos z many)
include P
theorem mem_put {h : Int} {l : List Int} {x : Int} : x ∈ put pos h l ↔ ∃ i ∈ l, pos h i = x := by
  unfold put
  rw [(isrt_perm _).mem_iff, List.mem_map]
theorem mem_both {a b : List Int} {x : Int} : x ∈ both pos a b ↔ (∃ i ∈ a, pos 0 i = x) ∨ ∃ i ∈ b, pos 1 i = x := by
  unfold both
  rw [(isrt_perm _).mem_iff, List.mem_append, mem_put P, mem_put P]
theorem mem_part {h : Int} {s : List Int} {i : Int} : i ∈ part pos z h s ↔ 0 ≤ i ∧ i < z h ∧ pos h i ∈ s := by
  unfold part
  rw [List.mem_filter, List.mem_map, memI_iff]
  constructor
  · rintro ⟨⟨j, m, rfl⟩, q⟩
    exact ⟨by omega, by have := List.mem_range.mp m; omega, q⟩
  · rintro ⟨a, b, c⟩
    exact ⟨⟨i.toNat, List.mem_range.mpr (by omega), by omega⟩, c⟩
theorem put_nodup {h : Int} {l : List Int} (hh : h = 0 ∨ h = 1) (s : Sub (z h) l) : (l.map (pos h)).Nodup := by
  refine List.pairwise_map.mpr ?_
  refine List.Pairwise.imp_of_mem (fun {a b} ma mb hab e => ?_) (asc_nodup s.1)
  exact hab (P.inj h a h b hh (s.1.2 a ma) (s.2 a ma) hh (s.1.2 b mb) (s.2 b mb) e).2
theorem put_sub {h : Int} {l : List Int} (hh : h = 0 ∨ h = 1) (s : Sub (z h) l) : Sub many (put pos h l) := by
  refine ⟨isrt_asc (put_nodup P hh s) fun x m => ?_, fun x m => ?_⟩
  · obtain ⟨i, mi, rfl⟩ := List.mem_map.mp m
    exact (P.lo h i hh (s.1.2 i mi) (s.2 i mi)).1
  · obtain ⟨i, mi, rfl⟩ := (mem_put P).mp m
    exact (P.lo h i hh (s.1.2 i mi) (s.2 i mi)).2
theorem put_len {h : Int} {l : List Int} : (put pos h l).length = l.length := by
  unfold put
  rw [(isrt_perm _).length_eq, List.length_map]
theorem both_len {a b : List Int} : (both pos a b).length = a.length + b.length := by
  unfold both
  rw [(isrt_perm _).length_eq, List.length_append, put_len P, put_len P]
theorem both_sub {a b : List Int} (ha : Sub (z 0) a) (hb : Sub (z 1) b) : Sub many (both pos a b) := by
  refine ⟨isrt_asc ?_ fun x m => ?_, fun x m => ?_⟩
  · rw [List.nodup_append]
    refine ⟨asc_nodup (put_sub P (.inl rfl) ha).1, asc_nodup (put_sub P (.inr rfl) hb).1, ?_⟩
    rintro x mx y my rfl
    obtain ⟨i, mi, e⟩ := (mem_put P).mp mx
    obtain ⟨j, mj, e'⟩ := (mem_put P).mp my
    have := (P.inj 0 i 1 j (.inl rfl) (ha.1.2 i mi) (ha.2 i mi) (.inr rfl) (hb.1.2 j mj) (hb.2 j mj) (e.trans e'.symm)).1
    omega
  · rcases List.mem_append.mp m with m | m
    · exact (put_sub P (.inl rfl) ha).1.2 x m
    · exact (put_sub P (.inr rfl) hb).1.2 x m
  · have m := (isrt_perm _).mem_iff.mp m
    rcases List.mem_append.mp m with m | m
    · exact (put_sub P (.inl rfl) ha).2 x m
    · exact (put_sub P (.inr rfl) hb).2 x m
theorem part_sub {h : Int} {s : List Int} : Sub (z h) (part pos z h s) := by
  refine ⟨⟨?_, fun x m => ((mem_part P).mp m).1⟩, fun x m => ((mem_part P).mp m).2.1⟩
  unfold part
  refine List.Pairwise.filter _ (List.pairwise_map.mpr ?_)
  exact List.pairwise_lt_range.imp fun h => by omega
theorem part_both0 {a b : List Int} (ha : Sub (z 0) a) (hb : Sub (z 1) b) : part pos z 0 (both pos a b) = a := by
  refine asc_ext (part_sub P).1 ha.1 fun i => ?_
  rw [mem_part P, mem_both P]
  constructor
  · rintro ⟨h0, h1, ⟨j, m, e⟩ | ⟨j, m, e⟩⟩
    · have := (P.inj 0 j 0 i (.inl rfl) (ha.1.2 j m) (ha.2 j m) (.inl rfl) h0 h1 e).2
      exact this ▸ m
    · have := (P.inj 1 j 0 i (.inr rfl) (hb.1.2 j m) (hb.2 j m) (.inl rfl) h0 h1 e).1
      omega
  · intro m
    exact ⟨ha.1.2 i m, ha.2 i m, .inl ⟨i, m, rfl⟩⟩
theorem part_both1 {a b : List Int} (ha : Sub (z 0) a) (hb : Sub (z 1) b) : part pos z 1 (both pos a b) = b := by
  refine asc_ext (part_sub P).1 hb.1 fun i => ?_
  rw [mem_part P, mem_both P]
  constructor
  · rintro ⟨h0, h1, ⟨j, m, e⟩ | ⟨j, m, e⟩⟩
    · have := (P.inj 0 j 1 i (.inl rfl) (ha.1.2 j m) (ha.2 j m) (.inr rfl) h0 h1 e).1
      omega
    · have := (P.inj 1 j 1 i (.inr rfl) (hb.1.2 j m) (hb.2 j m) (.inr rfl) h0 h1 e).2
      exact this ▸ m
  · intro m
    exact ⟨hb.1.2 i m, hb.2 i m, .inr ⟨i, m, rfl⟩⟩
theorem both_part {s : List Int} (hs : Sub many s) : both pos (part pos z 0 s) (part pos z 1 s) = s := by
  refine asc_ext (both_sub P (part_sub P) (part_sub P)).1 hs.1 fun x => ?_
  rw [mem_both P]
  constructor
  · rintro (⟨i, m, rfl⟩ | ⟨i, m, rfl⟩)
    · exact ((mem_part P).mp m).2.2
    · exact ((mem_part P).mp m).2.2
  · intro m
    obtain ⟨h, i, hh, h0, h1, rfl⟩ := P.sur x (hs.1.2 x m) (hs.2 x m)
    rcases hh with rfl | rfl
    · exact .inl ⟨i, (mem_part P).mpr ⟨h0, h1, m⟩, rfl⟩
    · exact .inr ⟨i, (mem_part P).mpr ⟨h0, h1, m⟩, rfl⟩
theorem hit_put {h : Int} {s l : List Int} (hl : Sub (z h) l) : hitB s (put pos h l) = hitB (part pos z h s) l := by
  unfold hitB
  rw [Bool.eq_iff_iff]
  simp only [List.any_eq_true, memI_iff]
  constructor
  · rintro ⟨x, m, q⟩
    obtain ⟨i, mi, rfl⟩ := (mem_put P).mp m
    exact ⟨i, mi, (mem_part P).mpr ⟨hl.1.2 i mi, hl.2 i mi, q⟩⟩
  · rintro ⟨i, mi, q⟩
    exact ⟨_, (mem_put P).mpr ⟨i, mi, rfl⟩, ((mem_part P).mp q).2.2⟩
end
end Mi.K17
set_option Elab.async false
set_option linter.all false
set_option maxRecDepth 100000
set_option maxHeartbeats 4000000
namespace Mi.K17
open PySem PySem.Spec PyProof.Rows L2 Mi

theorem mem_setsOf {n : Nat} {least most : Int} {s : List Int} : s ∈ setsOf n least most ↔ Sub n s ∧ ((s.length : Int) ≤ most ∨ s = []) ∧ least ≤ (s.length : Int) := by
  unfold setsOf
  rw [srt_mem, List.mem_filter, mem_found]
  simp only [decide_eq_true_eq, and_assoc]
theorem mem_leftOf {n : Nat} {ws : List Wash} {least most : Int} {s : List Int} : s ∈ leftOf n ws least most ↔ (Sub n s ∧ ((s.length : Int) ≤ most ∨ s = []) ∧ least ≤ (s.length : Int)) ∧ ∀ w ∈ ws, fitB s w = true := by
  unfold leftOf
  rw [List.mem_filter, mem_setsOf, List.all_eq_true]
theorem sub_len {n : Nat} {s : List Int} (h : Sub n s) : s.length ≤ n := by
  have e : s.Perm (((List.range n).map fun i : Nat => (i : Int)).filter fun i => memI s i) := by
    refine (List.perm_ext_iff_of_nodup (asc_nodup h.1) ?_).2 fun x => ?_
    · refine List.Nodup.sublist List.filter_sublist (List.pairwise_map.mpr ?_)
      exact List.pairwise_lt_range.imp fun h => by omega
    · rw [List.mem_filter, memI_iff, List.mem_map]
      constructor
      · intro m
        exact ⟨⟨x.toNat, List.mem_range.mpr (by have := h.2 x m; have := h.1.2 x m; omega), by have := h.1.2 x m; omega⟩, m⟩
      · exact fun q => q.2
  rw [e.length_eq]
  refine Nat.le_trans (List.length_filter_le _ _) ?_
  simp
def putW (pos : Int → Int → Int) (h : Int) (w : Wash) : Wash := (put pos h w.1, w.2)
def inU (least most : Int) (a b : List Int) : Bool := decide (least ≤ (a.length : Int) + (b.length : Int)) && decide ((a.length : Int) + (b.length : Int) ≤ most)
def pairs (pos : Int → Int → Int) (A B : List (List Int)) (least most : Int) : List (List Int) := A.flatMap fun a => (B.filter (inU least most a)).map (both pos a)
section
variable {pos : Int → Int → Int} {z : Int → Nat} {many : Nat} (P : Pos pos z many)
include P
theorem fit_put {h : Int} {s : List Int} {w : Wash} (hl : Sub (z h) w.1) : fitB s (putW pos h w) = fitB (part pos z h s) w := by
  unfold fitB putW
  rw [hit_put P hl]
theorem fits_both {h0 h1 W : List Wash} (l0 : ∀ w ∈ h0, Sub (z 0) w.1) (l1 : ∀ w ∈ h1, Sub (z 1) w.1) (hW : W.Perm (h0.map (putW pos 0) ++ h1.map (putW pos 1))) {s : List Int} :
    (∀ w ∈ W, fitB s w = true) ↔ (∀ w ∈ h0, fitB (part pos z 0 s) w = true) ∧ ∀ w ∈ h1, fitB (part pos z 1 s) w = true := by
  constructor
  · intro h
    refine ⟨fun w m => ?_, fun w m => ?_⟩
    · rw [← fit_put P (l0 w m)]
      exact h _ (hW.mem_iff.mpr (List.mem_append.mpr (.inl (List.mem_map_of_mem m))))
    · rw [← fit_put P (l1 w m)]
      exact h _ (hW.mem_iff.mpr (List.mem_append.mpr (.inr (List.mem_map_of_mem m))))
  · rintro ⟨q0, q1⟩ w m
    rcases List.mem_append.mp (hW.mem_iff.mp m) with m | m
    · obtain ⟨v, mv, rfl⟩ := List.mem_map.mp m
      rw [fit_put P (l0 v mv)]; exact q0 v mv
    · obtain ⟨v, mv, rfl⟩ := List.mem_map.mp m
      rw [fit_put P (l1 v mv)]; exact q1 v mv
theorem due_eq {h0 h1 W : List Wash} {least most : Int} (l0 : ∀ w ∈ h0, Sub (z 0) w.1) (l1 : ∀ w ∈ h1, Sub (z 1) w.1) (hW : W.Perm (h0.map (putW pos 0) ++ h1.map (putW pos 1))) (a0 : 0 ≤ least) (a1 : least ≤ most) (a3 : most ≤ 3) :
    leftOf many W least most = srt (pairs pos (leftOf (z 0) h0 0 (min 3 (z 0))) (leftOf (z 1) h1 0 (min 3 (z 1))) least most) := by
  have sb : ∀ {n : Nat} {ws : List Wash} {x y : Int} {s : List Int}, s ∈ leftOf n ws x y → Sub n s := fun m => (mem_leftOf.mp m).1.1
  have e : leftOf many W least most = srt (((found many most).filter fun s => decide (least ≤ (s.length : Int))).filter fun s => W.all (fitB s)) := by
    unfold leftOf setsOf
    rw [srt_filter]
  rw [e]
  refine srt_congr ((List.perm_ext_iff_of_nodup ?_ ?_).2 fun s => ?_)
  · exact ((nodup_found most many).sublist List.filter_sublist).sublist List.filter_sublist
  · unfold pairs
    have nl : ∀ {n : Nat} {ws : List Wash} {x y : Int}, (leftOf n ws x y).Nodup := fun {n ws x y} => by
      unfold leftOf setsOf
      refine List.Nodup.sublist List.filter_sublist ?_
      exact (List.mergeSort_perm _ _).nodup_iff.mpr ((nodup_found y n).sublist List.filter_sublist)
    rw [List.Nodup, List.pairwise_flatMap]
    refine ⟨fun a ma => List.pairwise_map.mpr ?_, ?_⟩
    · refine List.Pairwise.imp_of_mem (fun {b c} mb mc h e => h ?_) (nl.sublist List.filter_sublist)
      rw [← part_both1 P (sb ma) (sb (List.mem_filter.mp mb).1), e, part_both1 P (sb ma) (sb (List.mem_filter.mp mc).1)]
    · refine List.Pairwise.imp_of_mem (fun {a b} ma mb h => ?_) nl
      intro x mx y my e
      obtain ⟨c, mc, rfl⟩ := List.mem_map.mp mx
      obtain ⟨d, md, rfl⟩ := List.mem_map.mp my
      refine h ?_
      rw [← part_both0 P (sb ma) (sb (List.mem_filter.mp mc).1), e, part_both0 P (sb mb) (sb (List.mem_filter.mp md).1)]
  · rw [List.mem_filter, List.mem_filter, mem_found, List.all_eq_true, fits_both P l0 l1 hW]
    unfold pairs
    rw [List.mem_flatMap]
    constructor
    · rintro ⟨⟨⟨hs, hm⟩, hl⟩, q0, q1⟩
      have hl := of_decide_eq_true hl
      have ln : (part pos z 0 s).length + (part pos z 1 s).length = s.length := by
        rw [← both_len P, both_part P hs]
      have ls : (s.length : Int) ≤ most := by
        rcases hm with h | h
        · exact h
        · subst h; simp; omega
      have s0 := sub_len (part_sub P (h := 0) (s := s))
      have s1 := sub_len (part_sub P (h := 1) (s := s))
      refine ⟨part pos z 0 s, mem_leftOf.mpr ⟨⟨part_sub P, .inl (by omega), by omega⟩, q0⟩, List.mem_map.mpr ⟨part pos z 1 s, List.mem_filter.mpr ⟨mem_leftOf.mpr ⟨⟨part_sub P, .inl (by omega), by omega⟩, q1⟩, ?_⟩, both_part P hs⟩⟩
      unfold inU
      rw [Bool.and_eq_true, decide_eq_true_eq, decide_eq_true_eq]
      omega
    · rintro ⟨a, ma, m⟩
      obtain ⟨b, mb, rfl⟩ := List.mem_map.mp m
      obtain ⟨mb, hi⟩ := List.mem_filter.mp mb
      unfold inU at hi
      rw [Bool.and_eq_true, decide_eq_true_eq, decide_eq_true_eq] at hi
      have ln := both_len P (a := a) (b := b)
      refine ⟨⟨⟨both_sub P (sb ma) (sb mb), .inl (by omega)⟩, decide_eq_true (by omega)⟩, ?_⟩
      rw [part_both0 P (sb ma) (sb mb), part_both1 P (sb ma) (sb mb)]
      exact ⟨(mem_leftOf.mp ma).2, (mem_leftOf.mp mb).2⟩
end
/-! ### the first wrong wash -/
theorem fw_find {n : Nat} {least most : Int} : ∀ (ws pre : List Wash) (k : Nat), k = pre.length →
    fw ((setsOf n least most).filter fun s => pre.all (fitB s)) ws k = ((List.range' k ws.length).find? fun at' => ((leftOf n ((pre ++ ws).take (at' + 1)) least most)).isEmpty)
  | [], pre, k, _ => rfl
  | w :: ws, pre, k, hk => by
    have e : (((setsOf n least most).filter fun s => pre.all (fitB s)).filter fun s => fitB s w) = (setsOf n least most).filter fun s => (pre ++ [w]).all (fitB s) := by
      rw [List.filter_filter]
      refine List.filter_congr fun s _ => ?_
      simp [Bool.and_comm]
    have e2 : (pre ++ w :: ws).take (k + 1) = pre ++ [w] := by
      rw [hk, List.take_length_add_append]; simp
    rw [fw, e, List.length_cons, List.range'_succ, List.find?_cons, e2]
    have e3 : leftOf n (pre ++ [w]) least most = (setsOf n least most).filter fun s => (pre ++ [w]).all (fitB s) := rfl
    rw [e3]
    by_cases h : ((setsOf n least most).filter fun s => (pre ++ [w]).all (fitB s)) = []
    · rw [if_pos h, h]; rfl
    · rw [if_neg h]
      have : ((setsOf n least most).filter fun s => (pre ++ [w]).all (fitB s)).isEmpty = false := by
        cases h' : (setsOf n least most).filter fun s => (pre ++ [w]).all (fitB s) with
        | nil => exact (h h').elim
        | cons => rfl
      rw [this]
      have := fw_find (n := n) (least := least) (most := most) ws (pre ++ [w]) (k + 1) (by simp [hk])
      rw [this]
      simp
theorem fw_all {n : Nat} {least most : Int} {ws : List Wash} : fw (setsOf n least most) ws 0 = (List.range ws.length).find? fun at' => (leftOf n (ws.take (at' + 1)) least most).isEmpty := by
  have := fw_find (n := n) (least := least) (most := most) ws [] 0 rfl
  have e0 : (setsOf n least most).filter (fun s => ([] : List Wash).all (fitB s)) = setsOf n least most := List.filter_eq_self.mpr fun _ _ => rfl
  rw [e0] at this
  rw [List.range_eq_range']
  exact this
/-- how many, asked at first or at last -/
theorem may_empty {n : Nat} {ws : List Wash} {least most : Int} (a0 : 0 ≤ least) (a1 : least ≤ most) (a3 : most ≤ 3) (an : most ≤ n) : ((leftOf n ws 0 (min 3 n)).filter fun s => decide (least ≤ (s.length : Int)) && decide ((s.length : Int) ≤ most)).isEmpty = (leftOf n ws least most).isEmpty := by
  rw [Bool.eq_iff_iff, List.isEmpty_iff, List.isEmpty_iff, List.eq_nil_iff_forall_not_mem, List.eq_nil_iff_forall_not_mem]
  have : ∀ s, s ∈ ((leftOf n ws 0 (min 3 n)).filter fun s => decide (least ≤ (s.length : Int)) && decide ((s.length : Int) ≤ most)) ↔ s ∈ leftOf n ws least most := fun s => by
    rw [List.mem_filter, mem_leftOf, mem_leftOf, Bool.and_eq_true, decide_eq_true_eq, decide_eq_true_eq]
    constructor
    · rintro ⟨⟨⟨a, _, _⟩, b⟩, c, d⟩
      exact ⟨⟨a, .inl d, c⟩, b⟩
    · rintro ⟨⟨a, b, c⟩, d⟩
      have : (s.length : Int) ≤ most := by
        rcases b with h | h
        · exact h
        · subst h; simp; omega
      exact ⟨⟨⟨a, .inl (by omega), by omega⟩, d⟩, c, this⟩
  exact ⟨fun h s m => h s ((this s).mpr m), fun h s m => h s ((this s).mp m)⟩
end Mi.K17
set_option Elab.async false
set_option linter.all false
set_option maxRecDepth 100000
set_option maxHeartbeats 4000000
namespace Mi.K17
open PySem PySem.Spec PyProof.Rows L2 Mi

section
variable {many : Nat} {ws : List Wash} {least most : Int} (c : CaseOk many ws least most)
include c
theorem many12 : many ≤ 12 := by have := c.m2; omega
theorem v_told : g_told [.int many, .tup (ws.map wD), .int least, .int most] = .ret (if leftOf many ws least most = [] then .non else .tup (wordsOf many (leftOf many ws least most))) :=
  a_told (v_check_case c) (v_left_of (many12 c)) (v_words_of (many12 c))
theorem v_first_wrong : g_first_wrong [.int many, .tup (ws.map wD), .int least, .int most] = .ret (optD (fw (setsOf many least most) ws 0)) :=
  a_first_wrong v_fits (v_check_case c) (v_sets_of (many12 c))
theorem v_next_load : (g_next_load [.int many, .tup (ws.map wD), .int least, .int most]).lim 0 fun d => ∃ l ∈ setsOf many 1 many, d = bestD (leftOf many ws least most) l ∧ ∀ l' ∈ setsOf many 1 many, worst (leftOf many ws least most) l ≤ worst (leftOf many ws least most) l' := by
  have h12 := many12 c
  have hc := v_check_case c
  have hl := @v_left_of many ws least most h12
  have hs := @v_sets_of many 1 many h12
  have hss : ∀ s ∈ leftOf many ws least most, Asc s ∧ ∀ x ∈ s, x < 1000 := fun s m => by
    have := (mem_leftOf.mp m).1.1
    exact ⟨this.1, fun x m => by have := this.2 x m; omega⟩
  have hls : ∀ s ∈ setsOf many 1 many, Asc s ∧ ∀ x ∈ s, x < 1000 := fun s m => by
    have := (mem_setsOf.mp m).1
    exact ⟨this.1, fun x m => by have := this.2 x m; omega⟩
  have hne : setsOf many 1 many ≠ [] := by
    intro e
    have h1 := c.m1
    have : [(0 : Int)] ∈ setsOf many 1 many := mem_setsOf.mpr ⟨⟨⟨by simp, by simp⟩, by simp; omega⟩, .inl (by simp; omega), by simp⟩
    rw [e] at this
    cases this
  generalize leftOf many ws least most = ss at *
  generalize setsOf many 1 many = ls at *
  unfold g_next_load m_next_load
  generalize g_check_case = gc at *
  generalize g_left_of = gl at *
  generalize g_sets_of = gs at *
  exact @a_next_load gc gl gs _ _ _ _ ss ls hc hl hs hss hls hne
end
/-! ### the law's own -/
def envS (a b : Slot) (m : Int) (pre : List Nat) : Ev := [a, b, some (true, .lst ((pre.foldl (fun L (i : Nat) => grow m L i) [[]]).map row)), lastS (fun i : Nat => (false, .int i)) pre, none]
theorem lsets_body {a : Slot} {m : Int} {pre : List Nat} {i : Nat} (h : pre.length ≤ 13) : ∃ e', gNm 3 (.int i) [a, some (false, .int m), some (true, .lst ((pre.foldl (fun L (i : Nat) => grow m L i) [[]]).map row)), lastS (fun i : Nat => (false, .int i)) pre, none] = some e' ∧
    f__law_sets_1 e' = .ret (.nx, [a, some (false, .int m), some (true, .lst (((pre ++ [i]).foldl (fun L (i : Nat) => grow m L i) [[]]).map row)), lastS (fun i : Nat => (false, .int i)) (pre ++ [i]), none]) := by
  refine ⟨_, by simp; rfl, ?_⟩
  obtain ⟨h1, h2⟩ := found_len m pre [[]] 0 (by simp) (by simp)
  have hk : 2 ^ (0 + pre.length) ≤ 2 ^ 13 := Nat.pow_le_pow_right (by omega) (by omega)
  rw [List.foldl_append]
  generalize pre.foldl (fun L (i : Nat) => grow m L i) [[]] = L at h1 h2 ⊢
  unfold f__law_sets_1
  simp -implicitDefEqProofs
  rw [comp_map (env1 := [a, some (false, .int m), some (true, .lst (L.map row)), some (false, .int i), none]) L row (fun s => decide ((s.length : Int) < m)) (fun s => row (s ++ [(i : Int)]))]
  · simp -implicitDefEqProofs [wipeE, backE, gExtend]
    have := List.length_filter_le (fun s : List Int => decide ((s.length : Int) < m)) L
    rw [if_pos (by omega)]
    simp -implicitDefEqProofs [grow]
  · simp -implicitDefEqProofs
  · simp [free1]
  · intro s ms
    have := h2 s ms
    simp -implicitDefEqProofs [wipeE]
    by_cases hs : (s.length : Int) < m
    · simp -implicitDefEqProofs [hs]
      rw [if_pos (by omega)]
      simp -implicitDefEqProofs
    · simp [hs]
theorem v__law_sets {many : Nat} {m : Int} (h : many ≤ 12) : g__law_sets [.int many, .int m] = .ret (.lst ((srt (found many m)).map row)) := by
  have e1 : forL (gNm 3) f__law_sets_1 ((List.range many).map fun i : Nat => D.int i) [some (false, .int many), some (false, .int m), some (true, .lst [.tup []]), none, none] = .ret (.nx, _) :=
    forL_of (fun pre => [some (false, .int many), some (false, .int m), some (true, .lst ((pre.foldl (fun L (i : Nat) => grow m L i) [[]]).map row)), lastS (fun i : Nat => (false, .int i)) pre, none]) (by simp [row]) fun p x q hp => lsets_body (by have := pre_lt hp; simp at this; omega)
  have e2 : iRng (hCons (eVar 0) hNil) [some (false, .int many), some (false, .int m), some (true, .lst [.tup []]), none, none] = .ret ((List.range many).map fun i : Nat => D.int i, _) :=
    iRng1_of (by simp; rfl) (by omega)
  unfold g__law_sets m__law_sets b__law_sets
  simp -implicitDefEqProofs [mkFn, startM, -iRng_e]
  rw [e2]
  simp -implicitDefEqProofs [e1]
  simp -implicitDefEqProofs [found]
end Mi.K17
set_option Elab.async false
set_option linter.all false
set_option maxRecDepth 100000
set_option maxHeartbeats 1000000
namespace Mi.K17
open PySem PySem.Spec PyProof.Rows L2 Mi

def envY (n W : D) (ws : List Wash) (pre : List (List Int)) : Ev := [some (false, n), some (false, W), some (true, .lst ((pre.filter fun s => ws.all (fitB s)).map row)), lastS (fun s => (false, row s)) pre, none, none, none]
theorem may_body {gs : List D → T D} {n W : D} {ws : List Wash} {pre : List (List Int)} {s : List Int} (hw : walkD W = some (ws.map wD)) (h : pre.length ≤ 100000) : ∃ e', gNm 3 (row s) (envY n W ws pre) = some e' ∧ f__law_may_1 gs e' = .ret (.nx, envY n W ws (pre ++ [s])) := by
  refine ⟨_, by simp [envY]; rfl, ?_⟩
  have hl : ((pre.filter fun s => ws.all (fitB s)).map row).length < 16777216 := by
    have := List.length_filter_le (fun s : List Int => ws.all (fitB s)) pre
    simp only [List.length_map]
    omega
  unfold f__law_may_1
  simp -implicitDefEqProofs
  rw [comp_each (env1 := [some (false, n), some (false, W), some (true, .lst ((pre.filter fun s => ws.all (fitB s)).map row)), some (false, row s), none, none, none]) ws wD (fun w => .bl (fitB s w))]
  · simp -implicitDefEqProofs [wipeE, backE, allD_map, envY, List.filter_append]
    cases hq : ws.all (fitB s) with
    | true => simp -implicitDefEqProofs [append_e hl, hq]
    | false => simp -implicitDefEqProofs [hq]
  · simp -implicitDefEqProofs [hw]
  · simp [free1]
  · intro w _
    simp -implicitDefEqProofs [wipeE, wD]
    rw [comp_each (env1 := [some (false, n), some (false, W), some (true, .lst ((pre.filter fun s => ws.all (fitB s)).map row)), some (false, row s), some (false, row w.1), some (false, .bl w.2), none]) w.1 D.int (fun x => .bl (memI s x))]
    · simp -implicitDefEqProofs [wipeE, backE, anyD_map, fitB, hitB]
    · simp -implicitDefEqProofs
    · simp [free1]
    · intro x _
      simp -implicitDefEqProofs [wipeE]
theorem a__law_may {gs : List D → T D} {n : Nat} {W : D} {ws : List Wash} {L : List (List Int)} (hw : walkD W = some (ws.map wD)) (h : L.length ≤ 100000) (hs : gs [.int n, .int (min 3 n)] = .ret (.lst (L.map row))) :
    mkFn 7 2 (b__law_may gs) [.int n, W] = .ret (.lst ((L.filter fun s => ws.all (fitB s)).map row)) := by
  have e1 : forL (gNm 3) (f__law_may_1 gs) (L.map row) (envY (.int n) W ws []) = .ret (.nx, envY (.int n) W ws L) :=
    forL_of (envY (.int n) W ws) rfl fun p x q hp => may_body hw (by have := pre_lt hp; omega)
  unfold b__law_may
  unfold envY at e1
  simp -implicitDefEqProofs at e1
  simp -implicitDefEqProofs [mkFn, startM, hs]
  rw [e1]
  simp -implicitDefEqProofs
theorem srt_len (L : List (List Int)) : (srt L).length = L.length := List.length_mergeSort _
theorem v__law_may {n : Nat} {W : D} {ws : List Wash} (hw : walkD W = some (ws.map wD)) (h : n ≤ 12) : g__law_may [.int n, W] = .ret (.lst ((leftOf n ws 0 (min 3 n)).map row)) := by
  have e : leftOf n ws 0 (min 3 n) = (srt (found n (min 3 n))).filter fun s => ws.all (fitB s) := by
    unfold leftOf setsOf
    have : (found n (min 3 n)).filter (fun s => decide ((0 : Int) ≤ (s.length : Int))) = found n (min 3 n) := List.filter_eq_self.mpr fun s _ => decide_eq_true (by omega)
    rw [this]
  have hl : (srt (found n (min 3 n))).length ≤ 100000 := by
    rw [srt_len]
    have := (found_len (min 3 n) (List.range n) [[]] 0 (by simp) (by simp)).1
    have hk : 2 ^ (0 + (List.range n).length) ≤ 2 ^ 13 := Nat.pow_le_pow_right (by omega) (by simp; omega)
    unfold found
    omega
  rw [e]
  exact a__law_may hw hl (v__law_sets h)
/-! ### numbers of a hall among both -/
def oD (z : Int × Int) : D := .tup [.int z.1, .int z.2]
theorem eqO (a z : Int × Int) : eqDn DEEP (oD a) (oD z) = some (a == z) := by
  show eqL (eqDn 39) [.int a.1, .int a.2] [.int z.1, .int z.2] = _
  have e1 : ∀ i j : Int, eqDn 39 (.int i) (.int j) = some (i == j) := fun i j => rfl
  simp only [eqL, e1, Bool.and_true]
  obtain ⟨a1, a2⟩ := a
  obtain ⟨b1, b2⟩ := z
  rfl
theorem anyO_o (z : Int × Int) : ∀ l : List (Int × Int), (anyO (fun y => eqDn DEEP y (oD z)) (l.map oD)).isSome = true
  | [] => rfl
  | y :: l => by
    have := anyO_o z l
    obtain ⟨b, hb⟩ := Option.isSome_iff_exists.mp this
    simp only [List.map_cons, anyO, eqO, hb]
    rfl
theorem idxO_o (z : Int × Int) : ∀ l : List (Int × Int), z ∈ l → idxO (fun y => eqDn DEEP y (oD z)) (l.map oD) = some (l.idxOf z)
  | [], h => by cases h
  | y :: l, h => by
    simp only [List.map_cons, idxO, eqO, List.idxOf_cons]
    cases hb : y == z with
    | true => rfl
    | false =>
      have : z ∈ l := by
        rcases List.mem_cons.mp h with e | m
        · subst e; simp at hb
        · exact m
      rw [idxO_o z l this]
      rfl
theorem gIdx_o {l : List (Int × Int)} {z : Int × Int} (h : z ∈ l) (hl : l.length ≤ 1000) : gIdx (.lst (l.map oD)) [oD z] = some (.val (.int (l.idxOf z))) := by
  have : (l.map oD).length ≤ 16777216 := by simp; omega
  show (if _ ∧ _ then _ else none) = _
  rw [if_pos ⟨this, anyO_o z l⟩, idxO_o z l h]
  rfl
def posO (order : List (Int × Int)) (h i : Int) : Int := (order.idxOf (h, i) : Nat)
theorem v__law_put {order : List (Int × Int)} {h : Int} {l : List Int} (hm : ∀ i ∈ l, (h, i) ∈ order) (hl : order.length ≤ 1000) : g__law_put [.lst (order.map oD), .int h, row l] = .ret (row (put (posO order) h l)) := by
  unfold g__law_put m__law_put b__law_put
  simp -implicitDefEqProofs [mkFn, startM]
  rw [comp_each (env1 := [some (false, .lst (order.map oD)), some (false, .int h), some (false, row l), none]) l D.int (fun i => .int (posO order h i))]
  · have e : sortedD (.lst (l.map fun i => D.int (posO order h i))) = some (.tmp (.lst ((put (posO order) h l).map .int))) := by
      rw [show (l.map fun i => D.int (posO order h i)) = (l.map (posO order h)).map .int by simp, sorted_ints]
      rfl
    simp -implicitDefEqProofs [wipeE, backE, e]
  · simp -implicitDefEqProofs
  · simp [free1]
  · intro i m
    have this : gIdx (.lst (order.map oD)) [.tup [.int h, .int i]] = some (.val (.int (order.idxOf (h, i)))) := gIdx_o (hm i m) hl
    simp -implicitDefEqProofs [wipeE, eMt, this, posO]
/-! ### both halls -/
def envB (o m a b : D) (pos : Int → Int → Int) (B : List (List Int)) (least most : Int) (done : List (List Int)) (x5 x6 : Slot) : Ev := [some (false, o), some (false, m), some (false, a), some (false, b), some (true, .lst (done.map row)), x5, x6]
theorem both_in {gp : List D → T D} {o m : D} {pos : Int → Int → Int} {least most : Int} {s t : List Int} {done : List (List Int)} {x6 : Slot}
    (h0 : gp [o, .int 0, row s] = .ret (row (put pos 0 s))) (h1 : gp [o, .int 1, row t] = .ret (row (put pos 1 t))) (hs : s.length ≤ 1000) (ht : t.length ≤ 1000) (hd : done.length ≤ 100000) :
    ∃ e', gNm 6 (row t) [some (false, o), some (false, m), some (false, .int least), some (false, .int most), some (true, .lst (done.map row)), some (false, row s), x6] = some e' ∧
      f__law_both_1 gp e' = .ret (.nx, [some (false, o), some (false, m), some (false, .int least), some (false, .int most), some (true, .lst ((done ++ (if inU least most s t then [both pos s t] else [])).map row)), some (false, row s), some (false, row t)]) := by
  refine ⟨_, by simp; rfl, ?_⟩
  unfold f__law_both_1
  have hd' : (done.map row).length < 16777216 := by simp; omega
  have l0 : (put pos 0 s).length = s.length := by unfold put; rw [(isrt_perm _).length_eq, List.length_map]
  have l1 : (put pos 1 t).length = t.length := by unfold put; rw [(isrt_perm _).length_eq, List.length_map]
  have e : sortedD (.tup ((put pos 0 s).map .int ++ (put pos 1 t).map .int)) = some (.tmp (.lst ((both pos s t).map .int))) := by
    rw [← List.map_append]
    exact sorted_ints (put pos 0 s ++ put pos 1 t)
  simp -implicitDefEqProofs
  by_cases c1 : least ≤ (s.length : Int) + (t.length : Int)
  · by_cases c2 : (s.length : Int) + (t.length : Int) ≤ most
    · simp -implicitDefEqProofs [c1, c2, h0, h1, inU, lf]
      rw [if_pos (by omega)]
      simp -implicitDefEqProofs [e, append_e hd']
    · simp -implicitDefEqProofs [c1, c2, inU]
  · simp -implicitDefEqProofs [c1, inU]
/-- a loop of a list, the names after each part of it -/
theorem both_row {gp : List D → T D} {o m : D} {pos : Int → Int → Int} {least most : Int} {s : List Int} {B done : List (List Int)} {x6 : Slot} (h0 : gp [o, .int 0, row s] = .ret (row (put pos 0 s))) (h1 : ∀ t ∈ B, gp [o, .int 1, row t] = .ret (row (put pos 1 t))) (hs : s.length ≤ 1000) (ht : ∀ t ∈ B, t.length ≤ 1000) (hd : done.length + B.length ≤ 100000) :
    forL (gNm 6) (f__law_both_1 gp) (B.map row) [some (false, o), some (false, m), some (false, .int least), some (false, .int most), some (true, .lst (done.map row)), some (false, row s), x6] =
      .ret (.nx, [some (false, o), some (false, m), some (false, .int least), some (false, .int most), some (true, .lst ((done ++ (B.filter (inU least most s)).map (both pos s)).map row)), some (false, row s), (lastS (fun t => (false, row t)) B).or x6]) := by
  have := forL_of (f := row) (g := gNm 6) (body := f__law_both_1 gp) (fun pre => [some (false, o), some (false, m), some (false, .int least), some (false, .int most), some (true, .lst ((done ++ (pre.filter (inU least most s)).map (both pos s)).map row)), some (false, row s), (lastS (fun t => (false, row t)) pre).or x6]) (items := B) (e0 := [some (false, o), some (false, m), some (false, .int least), some (false, .int most), some (true, .lst (done.map row)), some (false, row s), x6]) (by simp) (fun p t q hp => ?_)
  · exact this
  · have hm : t ∈ B := by rw [hp]; simp
    have hl : (done ++ (p.filter (inU least most s)).map (both pos s)).length ≤ 100000 := by
      have := pre_lt hp
      have := List.length_filter_le (inU least most s) p
      simp only [List.length_append, List.length_map]
      omega
    obtain ⟨e', e1, e2⟩ := both_in (gp := gp) (o := o) (m := m) (pos := pos) (least := least) (most := most) (s := s) (t := t) (done := done ++ (p.filter (inU least most s)).map (both pos s)) (x6 := (lastS (fun t => (false, row t)) p).or x6) h0 (h1 t hm) hs (ht t hm) hl
    refine ⟨e', e1, ?_⟩
    rw [e2]
    have : (p ++ [t]).filter (inU least most s) = p.filter (inU least most s) ++ if inU least most s t then [t] else [] := by
      rw [List.filter_append]; cases h : inU least most s t <;> simp [h]
    rw [this]
    cases h : inU least most s t <;> simp
theorem a__law_both {gp : List D → T D} {o : D} {pos : Int → Int → Int} {least most : Int} {A B : List (List Int)} (h0 : ∀ s ∈ A, gp [o, .int 0, row s] = .ret (row (put pos 0 s))) (h1 : ∀ t ∈ B, gp [o, .int 1, row t] = .ret (row (put pos 1 t))) (hs : ∀ s ∈ A, s.length ≤ 1000) (ht : ∀ t ∈ B, t.length ≤ 1000) (hA : A.length ≤ 300) (hB : B.length ≤ 300) :
    mkFn 7 4 (b__law_both gp) [o, .lst [.lst (A.map row), .lst (B.map row)], .int least, .int most] = .ret (.lst ((srt (pairs pos A B least most)).map row)) := by
  have hlen : ∀ p : List (List Int), (pairs pos p B least most).length ≤ p.length * B.length := fun p => by
    unfold pairs
    induction p with
    | nil => simp
    | cons a p ih =>
      have := List.length_filter_le (inU least most a) B
      simp only [List.flatMap_cons, List.length_append, List.length_map, List.length_cons, Nat.succ_mul]
      omega
  have e1 : ∃ x6, forL (gNm 5) (f__law_both_2 gp) (A.map row) [some (false, o), some (false, .lst [.lst (A.map row), .lst (B.map row)]), some (false, .int least), some (false, .int most), some (true, .lst []), none, none] =
      .ret (.nx, [some (false, o), some (false, .lst [.lst (A.map row), .lst (B.map row)]), some (false, .int least), some (false, .int most), some (true, .lst ((pairs pos A B least most).map row)), lastS (fun s => (false, row s)) A, x6]) := by
    refine ⟨_, forL_of (f := row) (fun pre => [some (false, o), some (false, .lst [.lst (A.map row), .lst (B.map row)]), some (false, .int least), some (false, .int most), some (true, .lst ((pairs pos pre B least most).map row)), lastS (fun s => (false, row s)) pre, if pre = [] then none else lastS (fun t => (false, row t)) B]) (by simp [pairs]) fun p s q hp => ⟨_, by simp; rfl, ?_⟩⟩
    have hm : s ∈ A := by rw [hp]; simp
    have hl : (pairs pos p B least most).length + B.length ≤ 100000 := by
      have h2 := hlen p
      have h3 := pre_lt hp
      have : p.length * B.length ≤ 300 * 300 := Nat.mul_le_mul (by omega) hB
      omega
    unfold f__law_both_2
    simp -implicitDefEqProofs only [sFor_e]
    simp -implicitDefEqProofs
    rw [both_row (h0 s hm) h1 (hs s hm) ht hl]
    have : pairs pos (p ++ [s]) B least most = pairs pos p B least most ++ (B.filter (inU least most s)).map (both pos s) := by
      unfold pairs; simp
    rw [this]
    by_cases hp' : p = []
    · subst hp'; simp
    · simp [hp']
  obtain ⟨x6, e1⟩ := e1
  unfold b__law_both
  simp -implicitDefEqProofs [mkFn, startM]
  rw [e1]
  simp -implicitDefEqProofs
theorem v__law_words {many : Nat} {ss : List (List Int)} (h : many ≤ 12) : g__law_words [.int many, .lst (ss.map row)] = .ret (if ss = [] then .non else .tup (wordsOf many ss)) := by
  have e1 : forL (gNm 3) f__law_words_1 ((List.range many).map fun i : Nat => D.int i) [some (false, .int many), some (false, .lst (ss.map row)), some (true, .lst []), none, none, none] = .ret (.nx, envW (some (false, .int many)) ss (List.range many)) :=
    forL_of (envW (some (false, .int many)) ss) (by simp [envW]) fun p x q hp => words_body (by have := pre_lt hp; simp at this; omega)
  have e2 : iRng (hCons (eVar 0) hNil) [some (false, .int many), some (false, .lst (ss.map row)), some (true, .lst []), none, none, none] = .ret ((List.range many).map fun i : Nat => D.int i, [some (false, .int many), some (false, .lst (ss.map row)), some (true, .lst []), none, none, none]) :=
    iRng1_of (by simp) (by omega)
  unfold g__law_words m__law_words b__law_words r__law_words_1 r__law_words_2 r__law_words_3
  simp -implicitDefEqProofs [mkFn, startM, -iRng_e]
  by_cases hs : ss = []
  · subst hs; simp -implicitDefEqProofs
  · rw [if_neg hs, if_neg hs, e2]
    simp -implicitDefEqProofs [e1]
    simp -implicitDefEqProofs [envW, wordsOf]
end Mi.K17
set_option Elab.async false
set_option linter.all false
set_option maxRecDepth 100000
set_option maxHeartbeats 1000000
namespace Mi.K17
open PySem PySem.Spec PyProof.Rows L2 Mi

theorem erase_map {α β : Type} (f : α → β) : ∀ (l : List α) (i : Nat), (l.map f).eraseIdx i = (l.eraseIdx i).map f
  | [], i => rfl
  | x :: l, 0 => rfl
  | x :: l, i + 1 => by simp [erase_map f l i]
theorem erase_perm {α : Type} : ∀ (l : List α) {i : Nat} (h : i < l.length), ([l[i]] ++ l.eraseIdx i).Perm l
  | x :: l, 0, h => List.Perm.refl _
  | x :: l, i + 1, h => by
    have := erase_perm l (i := i) (by simpa using h)
    simp only [List.getElem_cons_succ, List.eraseIdx_cons_succ, List.cons_append, List.nil_append] at this ⊢
    exact (List.Perm.swap _ _ _).trans (this.cons x)
section
variable {α : Type} {f : α → D}
def envSo (pool many : D) (f : α → D) (rs fs : List α) (x5 : Slot) : Ev := [some (false, .pot), some (false, pool), some (false, many), some (true, .lst (rs.map f)), some (true, .lst (fs.map f)), x5]
theorem some_body {pool many : D} {rs fs : List α} {x5 : Slot} {i : Nat} (hr : 0 < rs.length) (hr' : rs.length ≤ 1000) (hf : fs.length ≤ 1000) :
    ∃ e', gNm 5 (.int i) (envSo pool many f rs fs x5) = some e' ∧ (f__law_some_1 takeG e').lim 1 fun r => r.1 = .nx ∧ ∃ rs' fs' x5', r.2 = envSo pool many f rs' fs' x5' ∧ (fs' ++ rs').Perm (fs ++ rs) ∧ fs'.length = fs.length + 1 := by
  refine ⟨_, by simp [envSo]; rfl, ?_⟩
  have ht := take_e (k := (rs.length : Int)) (by omega) (by omega)
  have hf' : (fs.map f).length < 16777216 := by simp; omega
  unfold f__law_some_1
  simp -implicitDefEqProofs [ht]
  refine T.lim_draw (by decide) fun d hd => ?_
  have hp := pop_e (l := rs.map f) (k := d) (by simpa using hd) (by simp; omega)
  simp -implicitDefEqProofs [lf, hp, append_e hf']
  refine ⟨rs.eraseIdx d, fs ++ [rs[d]], ⟨some (false, .int i), ?_⟩, ?_, by simp⟩
  · simp [envSo, erase_map]
  · rw [List.append_assoc]
    refine List.Perm.append_left _ ?_
    exact erase_perm rs hd
theorem v__law_some {xs : List α} {k : Nat} (hk : k ≤ xs.length) (hx : xs.length ≤ 1000) : (g__law_some [.pot, .lst (xs.map f), .int k]).lim k fun d => ∃ ys rest : List α, d = .lst (ys.map f) ∧ (ys ++ rest).Perm xs ∧ ys.length = k := by
  unfold g__law_some m__law_some
  generalize hb : b__law_some g__law_take = bb
  refine mkFn_lim (n := 6) (np := 3) (body := bb) (ds := [.pot, .lst (xs.map f), .int k]) (by simp) ?_
  subst hb
  have e2 : iRng (hCons (eVar 2) hNil) [some (false, .pot), some (false, .lst (xs.map f)), some (false, .int k), some (true, .lst (xs.map f)), some (true, .lst []), none] = .ret ((List.range k).map fun i : Nat => D.int i, [some (false, .pot), some (false, .lst (xs.map f)), some (false, .int k), some (true, .lst (xs.map f)), some (true, .lst []), none]) :=
    iRng1_of (by simp) (by omega)
  unfold b__law_some
  simp -implicitDefEqProofs [startM, -iRng_e, unslot, puts]
  rw [e2, T.ret_bind]
  refine T.lim_then (forL_lim (f := fun i : Nat => D.int i) (n := 1) (fun p e => ∃ rs fs x5, e = envSo (.lst (xs.map f)) (.int k) f rs fs x5 ∧ (fs ++ rs).Perm xs ∧ fs.length = p.length) (List.range k) [] _ ?_ ?_) (by simp) ?_
  · rintro p i q e hp ⟨rs, fs, x5, rfl, h1, h2⟩
    have hl := pre_lt (show List.range k = p ++ i :: q from hp)
    rw [List.length_range] at hl
    have hx' := h1.length_eq
    rw [List.length_append] at hx'
    obtain ⟨e', h3, h4⟩ := some_body (f := f) (pool := .lst (xs.map f)) (many := .int k) (rs := rs) (fs := fs) (x5 := x5) (i := i) (by omega) (by omega) (by omega)
    refine ⟨e', h3, T.lim_mono (fun r hr => ?_) (Nat.le_refl _) h4⟩
    obtain ⟨r1, rs', fs', x5', r2, r3, r4⟩ := hr
    exact ⟨r1, rs', fs', x5', r2, r3.trans h1, by rw [r4, h2]; simp⟩
  · exact ⟨xs, [], none, rfl, by simp, rfl⟩
  · rintro ⟨fl, e⟩ ⟨h1, rs, fs, x5, h2, h3, h4⟩
    dsimp only at h1 h2
    subst h1 h2
    simp -implicitDefEqProofs [envSo]
    exact ⟨fs, rfl, ⟨rs, h3⟩, by simpa using h4⟩
/-! ### two rows among one another -/
def envMe (A B : D) (f : α → D) (done l r : List α) (x6 : Slot) : Ev := [some (false, .pot), some (false, A), some (false, B), some (true, .lst (done.map f)), some (true, .lst (l.map f)), some (true, .lst (r.map f)), x6]
theorem merged_body {A B : D} {done l r : List α} {x6 : Slot} {i : Nat} (hn : 0 < l.length + r.length) (hl : l.length + r.length ≤ 1000) (hd : done.length ≤ 1000) :
    ∃ e', gNm 6 (.int i) (envMe A B f done l r x6) = some e' ∧ (f__law_merged_1 takeG e').lim 1 fun z => z.1 = .nx ∧ ∃ done' l' r' x6', z.2 = envMe A B f done' l' r' x6' ∧ (done' ++ (l' ++ r')).Perm (done ++ (l ++ r)) ∧ done'.length = done.length + 1 := by
  refine ⟨_, by simp [envMe]; rfl, ?_⟩
  have ht := take_e (k := 2) (by omega) (by omega)
  have hd' : (done.map f).length < 16777216 := by simp; omega
  have goL : ∀ x l', l = x :: l' → (done ++ [x] ++ (l' ++ r)).Perm (done ++ (l ++ r)) := fun x l' e => by subst e; simp
  have goR : ∀ x r', r = x :: r' → (done ++ [x] ++ (l ++ r')).Perm (done ++ (l ++ r)) := fun x r' e => by
    subst e
    rw [List.append_assoc]
    refine List.Perm.append_left _ ?_
    exact (List.perm_middle (l₁ := l)).symm
  unfold f__law_merged_1
  cases r with
  | nil =>
    cases l with
    | nil => simp at hn
    | cons x l =>
      have hp := pop0_e (d := f x) (l := l.map f) (by simp at *; omega)
      simp -implicitDefEqProofs [hp, append_e hd']
      exact ⟨done ++ [x], l, [], ⟨some (false, .int i), by simp [envMe]⟩, by simpa using goL x l rfl, by simp⟩
  | cons y r =>
    have hpr := pop0_e (d := f y) (l := r.map f) (by simp at *; omega)
    cases l with
    | nil =>
      simp -implicitDefEqProofs [hpr, append_e hd']
      exact ⟨done ++ [y], [], r, ⟨some (false, .int i), by simp [envMe]⟩, goR y r rfl, by simp⟩
    | cons x l =>
      have hp := pop0_e (d := f x) (l := l.map f) (by simp at *; omega)
      simp -implicitDefEqProofs [ht, lf]
      refine T.lim_draw (by decide) fun d hd2 => ?_
      simp -implicitDefEqProofs [ht, lf]
      by_cases h0 : d = 0
      · subst h0
        simp -implicitDefEqProofs [hp, append_e hd']
        exact ⟨done ++ [x], l, y :: r, ⟨some (false, .int i), by simp [envMe]⟩, goL x l rfl, by simp⟩
      · simp -implicitDefEqProofs [h0, hpr, append_e hd']
        exact ⟨done ++ [y], x :: l, r, ⟨some (false, .int i), by simp [envMe]⟩, goR y r rfl, by simp⟩
theorem v__law_merged {xs ys : List α} (hx : xs.length + ys.length ≤ 1000) : (g__law_merged [.pot, .lst (xs.map f), .lst (ys.map f)]).lim (xs.length + ys.length) fun d => ∃ zs : List α, d = .lst (zs.map f) ∧ zs.Perm (xs ++ ys) := by
  unfold g__law_merged m__law_merged
  generalize hb : b__law_merged g__law_take = bb
  refine mkFn_lim (n := 7) (np := 3) (body := bb) (ds := [.pot, .lst (xs.map f), .lst (ys.map f)]) (by simp) ?_
  subst hb
  have e2 : iRng (hCons (eOp gAdd (eCall (hCons (eVar 1) hNil) (g1 lenD)) (eCall (hCons (eVar 2) hNil) (g1 lenD))) hNil) [some (false, .pot), some (false, .lst (xs.map f)), some (false, .lst (ys.map f)), some (true, .lst []), some (true, .lst (xs.map f)), some (true, .lst (ys.map f)), none] = .ret ((List.range (xs.length + ys.length)).map fun i : Nat => D.int i, [some (false, .pot), some (false, .lst (xs.map f)), some (false, .lst (ys.map f)), some (true, .lst []), some (true, .lst (xs.map f)), some (true, .lst (ys.map f)), none]) :=
    iRng1_of (by simp) (by omega)
  unfold b__law_merged
  simp -implicitDefEqProofs [startM, -iRng_e, unslot, puts]
  rw [e2, T.ret_bind]
  refine T.lim_then (forL_lim (f := fun i : Nat => D.int i) (n := 1) (fun p e => ∃ done l r x6, e = envMe (.lst (xs.map f)) (.lst (ys.map f)) f done l r x6 ∧ (done ++ (l ++ r)).Perm (xs ++ ys) ∧ done.length = p.length) (List.range (xs.length + ys.length)) [] _ ?_ ?_) (by simp) ?_
  · rintro p i q e hp ⟨done, l, r, x6, rfl, h1, h2⟩
    have hl := pre_lt (show List.range (xs.length + ys.length) = p ++ i :: q from hp)
    rw [List.length_range] at hl
    have hx' := h1.length_eq
    simp only [List.length_append] at hx'
    obtain ⟨e', h3, h4⟩ := merged_body (f := f) (A := .lst (xs.map f)) (B := .lst (ys.map f)) (done := done) (l := l) (r := r) (x6 := x6) (i := i) (by omega) (by omega) (by omega)
    refine ⟨e', h3, T.lim_mono (fun z hz => ?_) (Nat.le_refl _) h4⟩
    obtain ⟨r1, d', l', r', x6', r2, r3, r4⟩ := hz
    exact ⟨r1, d', l', r', x6', r2, r3.trans h1, by rw [r4, h2]; simp⟩
  · exact ⟨[], xs, ys, none, rfl, by simp, rfl⟩
  · rintro ⟨fl, e⟩ ⟨h1, done, l, r, x6, h2, h3, h4⟩
    dsimp only at h1 h2
    subst h1 h2
    have h5 := h3.length_eq
    simp only [List.length_append] at h5
    have h6 : done.length = xs.length + ys.length := by simpa using h4
    have : l = [] := List.length_eq_zero_iff.mp (by omega)
    subst this
    have : r = [] := List.length_eq_zero_iff.mp (by simp at h5; omega)
    subst this
    simp -implicitDefEqProofs [envMe]
    exact ⟨done, rfl, by simpa using h3⟩
end
def base (h : Int) (n : Nat) : List (Int × Int) := (List.range n).map fun i : Nat => (h, (i : Int))
theorem v__law_beside {n m : Nat} (hx : n + m ≤ 1000) : (g__law_beside [.pot, .int n, .int m]).lim (n + m) fun d => ∃ zs : List (Int × Int), d = .lst (zs.map oD) ∧ zs.Perm (base 0 n ++ base 1 m) := by
  have hm := v__law_merged (f := oD) (xs := base 0 n) (ys := base 1 m) (by simp [base]; omega)
  have hl : (base 0 n).length + (base 1 m).length = n + m := by simp [base]
  rw [hl] at hm
  unfold g__law_beside m__law_beside
  generalize g__law_merged = gm at hm ⊢
  generalize hb : b__law_beside gm = bb
  refine mkFn_lim (n := 4) (np := 3) (body := bb) (ds := [.pot, .int n, .int m]) (by simp) ?_
  subst hb
  have e1 : eComp [3] (iRng (hCons (eVar 1) hNil)) (gNm 3) mYes (eTup (hCons (eC (.int 0)) (hCons (eVar 3) hNil))) [some (false, .pot), some (false, .int n), some (false, .int m), none] = .ret (.tmp (.lst ((base 0 n).map oD)), [some (false, .pot), some (false, .int n), some (false, .int m), none]) := by
    rw [comp_each (env1 := [some (false, .pot), some (false, .int n), some (false, .int m), none]) (List.range n) (fun i : Nat => D.int i) (fun i : Nat => oD (0, i))]
    · simp -implicitDefEqProofs [wipeE, backE, base]
    · exact iRng1_of (by simp) (by omega)
    · simp [free1]
    · intro i _
      simp -implicitDefEqProofs [wipeE, oD]
  have e2 : eComp [3] (iRng (hCons (eVar 2) hNil)) (gNm 3) mYes (eTup (hCons (eC (.int 1)) (hCons (eVar 3) hNil))) [some (false, .pot), some (false, .int n), some (false, .int m), none] = .ret (.tmp (.lst ((base 1 m).map oD)), [some (false, .pot), some (false, .int n), some (false, .int m), none]) := by
    rw [comp_each (env1 := [some (false, .pot), some (false, .int n), some (false, .int m), none]) (List.range m) (fun i : Nat => D.int i) (fun i : Nat => oD (1, i))]
    · simp -implicitDefEqProofs [wipeE, backE, base]
    · exact iRng1_of (by simp) (by omega)
    · simp [free1]
    · intro i _
      simp -implicitDefEqProofs [wipeE, oD]
  unfold b__law_beside
  simp -implicitDefEqProofs [startM, -iRng_e]
  rw [e1]
  simp -implicitDefEqProofs [-iRng_e]
  rw [e2]
  simp -implicitDefEqProofs [-iRng_e]
  rw [T.bind_bind]
  refine T.lim_then hm (Nat.le_refl _) fun d hd => ?_
  obtain ⟨zs, rfl, hz⟩ := hd
  simp -implicitDefEqProofs
  exact ⟨zs, rfl, hz⟩
/-! ### the washes of one hall -/
theorem isrt_len (l : List Int) : (isrt l).length = l.length := (isrt_perm l).length_eq
def lots (n : Nat) : List Int := (List.range n).map fun i : Nat => (i : Int)
theorem lots_perm {n : Nat} {ys rest : List Int} (h : (ys ++ rest).Perm (lots n)) : Sub n (isrt ys) := by
  have hn : (lots n).Nodup := List.pairwise_map.mpr (List.pairwise_lt_range.imp fun h => by omega)
  have hm : ∀ x ∈ ys, 0 ≤ x ∧ x < n := fun x m => by
    have : x ∈ lots n := h.mem_iff.mp (List.mem_append.mpr (.inl m))
    obtain ⟨i, mi, rfl⟩ := List.mem_map.mp this
    have := List.mem_range.mp mi
    omega
  refine ⟨isrt_asc ((List.nodup_append.mp (h.nodup_iff.mpr hn)).1) fun x m => (hm x m).1, fun x m => (hm x ((isrt_perm ys).mem_iff.mp m)).2⟩
end Mi.K17
set_option Elab.async false
set_option linter.all false
set_option maxRecDepth 100000
set_option maxHeartbeats 1000000
namespace Mi.K17
open PySem PySem.Spec PyProof.Rows L2 Mi

theorem rgH_nat {n : Nat} (h : n ≤ 16777216) : rgH mkL 0 n = some (.tmp (.lst ((lots n).map .int))) := by
  have : rgOk 0 (n : Int) = true := by unfold rgOk; exact decide_eq_true (by omega)
  unfold rgH
  rw [if_pos this, rgD_nat]
  simp [mkL, lots]
def rgK1 (mk : List D → Hd) : Hd × Ev → T (Hd × Ev)
  | (.val (.int n), e) => okH e (rgH mk 0 n)
  | _ => .fail
theorem rgK1_i (mk : List D → Hd) (n : Int) (e : Ev) : rgK1 mk (.val (.int n), e) = okH e (rgH mk 0 n) := rfl
theorem eRg1_e (mk : List D → Hd) (m : M) (env : Ev) : eRg1 mk m env = (m env).bind (rgK1 mk) := by
  unfold eRg1
  refine congrArg _ (funext fun r => ?_)
  obtain ⟨h, e⟩ := r
  cases h with
  | val d =>
    cases d with
    | int n => rw [rgK1_i]; dsimp only; cases rgH mk 0 n <;> rfl
    | _ => rfl
  | _ => rfl
theorem eRg_of {m : M} {env env' : Ev} {n : Nat} (h : m env = .ret (.val (.int n), env')) (hn : n ≤ 16777216) : eRg1 mkL m env = .ret (.tmp (.lst ((lots n).map .int)), env') := by
  rw [eRg1_e, h, T.ret_bind, rgK1_i, rgH_nat hn, okH_s]
/-- so many drawn lots of a hall -/
theorem lots_comp {gs : List D → T D} {v p q : Nat} {K : M} {env : Ev} {n nk c : Nat} (hgs : ∀ k : Nat, k ≤ n → (gs [.pot, .lst ((lots n).map .int), .int k]).lim k fun d => ∃ ys rest : List Int, d = .lst (ys.map .int) ∧ (ys ++ rest).Perm (lots n) ∧ ys.length = k)
    (hp : env[p]? = some (some (false, .pot))) (hq : env[q]? = some (some (false, .int n))) (hv : env[v]? = some none) (hn : n ≤ 1000)
    (hK : (K env).lim nk fun r => ∃ k : Nat, k ≤ n ∧ c ≤ k ∧ r = (.val (.int k), env)) :
    (eComp [v] (iSeq (eDef gs (hCons (eVar p) (hCons (eRg1 mkL (eVar q)) (hCons K hNil))))) (gNm v) mYes (eCall (hCons (eVar v) hNil) (g1 intD)) env).lim (nk + n) fun r => ∃ l rest : List Int, (l ++ rest).Perm (lots n) ∧ c ≤ l.length ∧ r = (.tmp (.lst (l.map .int)), env) := by
  have hvl : v < env.length := by
    rcases Nat.lt_or_ge v env.length with h | h
    · exact h
    · rw [List.getElem?_eq_none h] at hv; cases hv
  have hset : env.set v none = env := by
    refine List.ext_getElem? fun i => ?_
    rw [List.getElem?_set]
    split
    · rename_i h; subst h; first | exact hv.symm | (rw [if_pos hvl]; exact hv.symm)
    · rfl
  have e1 : eVar p env = .ret (.val .pot, env) := by rw [eVar_e, hp]
  have e2 : eRg1 mkL (eVar q) env = .ret (.tmp (.lst ((lots n).map .int)), env) := eRg_of (by rw [eVar_e, hq]) (by omega)
  have hsrc : (iSeq (eDef gs (hCons (eVar p) (hCons (eRg1 mkL (eVar q)) (hCons K hNil)))) env).lim (nk + n) fun r => ∃ l rest : List Int, (l ++ rest).Perm (lots n) ∧ c ≤ l.length ∧ r = (l.map .int, env) := by
    rw [iSeq_e, eDef_e, hCons_e, e1, T.ret_bind, hCons_e, e2, T.ret_bind, hCons_e, T.bind_bind, T.bind_bind, T.bind_bind, T.bind_bind]
    refine T.lim_then hK (Nat.le_add_right _ _) fun r hr => ?_
    obtain ⟨k, hk, hc, rfl⟩ := hr
    rw [hNil_e]
    simp -implicitDefEqProofs
    rw [T.bind_bind]
    refine T.lim_then (hgs k hk) (by omega) fun d hd => ?_
    obtain ⟨ys, rest, rfl, h1, h2⟩ := hd
    simp -implicitDefEqProofs
    exact ⟨ys, ⟨rest, h1⟩, by omega, rfl⟩
  unfold eComp
  refine T.lim_then hsrc (Nat.le_refl _) fun r hr => ?_
  obtain ⟨l, rest, h1, h2, rfl⟩ := hr
  have hf : [v].all (free1 env) = true := by simp [free1, hv]
  rw [if_pos hf]
  have hw : wipeE env [v] = env := hset
  have hb : backE env env [v] = env := by
    show env.set v (env[v]?.getD none) = env
    rw [hv]
    exact hset
  have hc : compL (gNm v) mYes (eCall (hCons (eVar v) hNil) (g1 intD)) [v] (l.map .int) [] env = .ret (l.map .int, env) := by
    have := compL_map (g := gNm v) (tt := mYes) (elt := eCall (hCons (eVar v) hNil) (g1 intD)) (vs := [v]) (env := env) D.int (fun _ => true) D.int l [] (fun x _ => by
      have hg : (env.set v (some (false, D.int x)))[v]? = some (some (false, .int x)) := by rw [List.getElem?_set, if_pos rfl, if_pos hvl]
      have hw2 : wipeE (env.set v (some (false, D.int x))) [v] = env := by
        show (env.set v (some (false, D.int x))).set v none = env
        rw [List.set_set]; exact hset
      rw [stepE_e, gNm_e, if_pos hvl, stepE_s]
      simp -implicitDefEqProofs [hg, hw2, hvl])
    rw [List.filter_eq_self.mpr (fun _ _ => rfl), List.nil_append] at this
    exact this
  rw [hw, hc]
  simp -implicitDefEqProofs only [T.ret_bind, T.lim_ret]
  exact ⟨l, rest, h1, h2, by rw [hb]⟩
def HallOk (n : Nat) (ws : List Wash) : Prop := ws.length ≤ 6 ∧ ∀ w ∈ ws, Sub n w.1 ∧ 1 ≤ w.1.length
def envWa (a b c : D) (ran : List Int) (ws : List Wash) (x5 x6 : Slot) : Ev := [some (false, a), some (false, b), some (false, c), some (true, .lst (ran.map .int)), some (true, .lst (ws.map wD)), x5, x6, none, none]
theorem washes_body {gs : List D → T D} {n : Nat} {wr : D} {ran : List Int} {ws : List Wash} {x5 x6 : Slot} {i : Nat} (h1 : 1 ≤ n) (hn : n ≤ 6) (hw : ws.length ≤ 6) (hgs : ∀ k : Nat, k ≤ n → (gs [.pot, .lst ((lots n).map .int), .int k]).lim k fun d => ∃ ys rest : List Int, d = .lst (ys.map .int) ∧ (ys ++ rest).Perm (lots n) ∧ ys.length = k) :
    ∃ e', gNm 5 (.int i) (envWa .pot (.int n) wr ran ws x5 x6) = some e' ∧ (f__law_washes_1 gs takeG e').lim (1 + n) fun z => z.1 = .nx ∧ ∃ w x5' x6', z.2 = envWa .pot (.int n) wr ran (ws ++ [w]) x5' x6' ∧ Sub n w.1 ∧ 1 ≤ w.1.length := by
  refine ⟨_, by simp [envWa]; rfl, ?_⟩
  suffices key : ∀ Q : Fl × Ev → Prop, (∀ w : Wash, Sub n w.1 → 1 ≤ w.1.length → Q (.nx, envWa .pot (.int n) wr ran (ws ++ [w]) (some (false, .int i)) (some (false, row w.1)))) → (f__law_washes_1 gs takeG [some (false, .pot), some (false, .int n), some (false, wr), some (true, .lst (ran.map .int)), some (true, .lst (ws.map wD)), some (false, .int i), x6, none, none]).lim (1 + n) Q from
    key _ fun w a b => ⟨rfl, w, _, _, rfl, a, b⟩
  intro Q hQ
  have hw' : (ws.map wD).length < 16777216 := by simp; omega
  have ht := take_e (k := (n : Int)) (by omega) (by omega)
  have hl := lots_comp (gs := gs) (v := 8) (p := 0) (q := 1) (K := eOp gAdd (eC (.int 1)) (eCall (hCons (eDef takeG (hCons (eVar 0) (hCons (eVar 1) hNil))) hNil) (g1 intD))) (env := [some (false, .pot), some (false, .int n), some (false, wr), some (true, .lst (ran.map .int)), some (true, .lst (ws.map wD)), some (false, .int i), x6, none, none]) (n := n) (nk := 1) (c := 1) hgs rfl rfl rfl (by omega) (by
    simp -implicitDefEqProofs [ht]
    refine T.lim_draw (by decide) fun d hd => ?_
    simp -implicitDefEqProofs [lf]
    exact ⟨d + 1, by omega, by omega, by push_cast; omega⟩)
  unfold f__law_washes_1
  rw [sSeq_e, sSet_e, eCall_e, hCons_e, eCall_e, hCons_e]
  simp only [T.bind_bind]
  refine T.lim_then hl (Nat.le_refl _) fun r hr => ?_
  obtain ⟨l, rest, h2, h3, rfl⟩ := hr
  simp -implicitDefEqProofs
  rw [comp_each (env1 := [some (false, .pot), some (false, .int n), some (false, wr), some (true, .lst (ran.map .int)), some (true, .lst (ws.map wD)), some (false, .int i), some (false, row (isrt l)), none, none]) (isrt l) D.int (fun x => .bl (memI ran x))]
  · refine T.lim_of (a := (.nx, envWa .pot (.int n) wr ran (ws ++ [(isrt l, (isrt l).any (memI ran))]) (some (false, .int i)) (some (false, row (isrt l))))) ?_ (hQ (isrt l, (isrt l).any (memI ran)) (lots_perm h2) (by rw [isrt_len]; exact h3))
    simp -implicitDefEqProofs [wipeE, backE, anyD_map, append_e hw', envWa, wD]
  · simp -implicitDefEqProofs
  · simp [free1]
  · intro x _
    simp -implicitDefEqProofs [wipeE]
theorem rng_lim {m : M} {env env' : Ev} {nk : Nat} {R : Nat → Prop} (h : (m env).lim nk fun r => ∃ k : Nat, k ≤ 1000 ∧ R k ∧ r = (.val (.int k), env')) : (iRng (hCons m hNil) env).lim nk fun r => ∃ k : Nat, k ≤ 1000 ∧ R k ∧ r = ((List.range k).map fun i : Nat => D.int i, env') := by
  rw [iRng_e, hCons_e, T.bind_bind]
  refine T.lim_then h (Nat.le_refl _) fun r hr => ?_
  obtain ⟨k, h1, h2, rfl⟩ := hr
  rw [hNil_e, T.ret_bind, T.ret_bind, rss_cons, rss_nil, rs_val]
  dsimp only
  rw [rssI_s, rg2_nat (by omega), rngK_s, rgD_nat, T.lim_ret]
  exact ⟨k, h1, h2, rfl⟩
theorem store_e {i : Nat} {mi m : M} {env : Ev} {l : List D} {k : Nat} {d : D} (h1 : m env = .ret (.val d, env)) (h2 : env[i]? = some (some (true, .lst l))) (h3 : mi env = .ret (.val (.int k), env)) (hk : k < l.length) : sStore i mi m env = .ret (.nx, env.set i (some (true, .lst (l.set k d)))) := by
  have e : L2.ixN l.length (k : Int) = some k := by
    unfold L2.ixN
    split
    · rw [if_pos (by omega)]; simp
    · omega
  unfold sStore
  rw [h1, T.ret_bind, fz_val]
  dsimp only
  rw [h2]
  dsimp only
  rw [h3, T.ret_bind]
  dsimp only
  rw [h2]
  dsimp only
  rw [e]
theorem gIx_nat {l : List D} {k : Nat} (hk : k < l.length) : gIx (.lst l) (.int k) = some (.val l[k]) := by
  have e : L2.ixN l.length (k : Int) = some k := by
    unfold L2.ixN
    split
    · rw [if_pos (by omega)]; simp
    · omega
  simp [gIx, L2.atI, e, hk]
theorem v__law_washes {n : Nat} {wrong : Bool} (h1 : 1 ≤ n) (hn : n ≤ 6) : (g__law_washes [.pot, .int n, .bl wrong]).lim 60 fun d => ∃ ws : List Wash, d = .lst (ws.map wD) ∧ HallOk n ws := by
  have hgs : ∀ k : Nat, k ≤ n → (g__law_some [.pot, .lst ((lots n).map .int), .int k]).lim k fun d => ∃ ys rest : List Int, d = .lst (ys.map .int) ∧ (ys ++ rest).Perm (lots n) ∧ ys.length = k := fun k hk => v__law_some (by simp [lots]; exact hk) (by simp [lots]; omega)
  unfold g__law_washes m__law_washes
  generalize g__law_some = gs at hgs ⊢
  generalize hb : b__law_washes gs g__law_take = bb
  refine mkFn_lim (n := 9) (np := 3) (body := bb) (ds := [.pot, .int n, .bl wrong]) (by simp) ?_
  subst hb
  have ht := take_e (k := (min 2 n : Nat) + 1) (by omega) (by omega)
  have hl := lots_comp (gs := gs) (v := 8) (p := 0) (q := 1) (K := eCall (hCons (eDef takeG (hCons (eVar 0) (hCons (eOp gAdd (eCall (hCons (eC (.int 2)) (hCons (eVar 1) hNil)) (gI2 min)) (eC (.int 1))) hNil))) hNil) (g1 intD)) (env := [some (false, .pot), some (false, .int n), some (false, .bl wrong), none, none, none, none, none, none]) (n := n) (nk := 1) (c := 0) hgs rfl rfl rfl (by omega) (by
    have e : (min 2 (n : Int)) = ((min 2 n : Nat) : Int) := by omega
    simp -implicitDefEqProofs [e, ht]
    refine T.lim_draw (by decide) fun d hd => ?_
    simp -implicitDefEqProofs [lf]
    exact ⟨d, by omega, rfl⟩)
  unfold b__law_washes r__law_washes_1 r__law_washes_2 r__law_washes_3 r__law_washes_4
  have es : startM 9 [.pot, .int n, .bl wrong] = [some (false, .pot), some (false, .int n), some (false, .bl wrong), none, none, none, none, none, none] := by simp [startM, List.replicate]
  rw [es, sSeq_e, sSet_e]
  simp only [T.bind_bind]
  refine T.lim_then hl (by omega) fun r hr => ?_
  obtain ⟨ran, rest, h2, h3, rfl⟩ := hr
  have ht7 := take_e (k := 7) (by omega) (by omega)
  simp -implicitDefEqProofs [ht7, -iRng_e]
  simp only [T.bind_bind]
  refine T.lim_then (rng_lim (nk := 1) (R := fun k => k ≤ 6) (env' := [some (false, .pot), some (false, .int n), some (false, .bl wrong), some (true, .lst (ran.map .int)), some (true, .lst []), none, none, none, none]) ?_) (by omega) fun r hr => ?_
  · simp -implicitDefEqProofs [ht7]
    refine T.lim_draw (by decide) fun d hd => ?_
    simp -implicitDefEqProofs [lf]
    have hd' : d < 7 := hd
    exact ⟨d, by omega, by omega, rfl⟩
  obtain ⟨c, _, hc, rfl⟩ := hr
  refine T.lim_then (forL_lim (f := fun i : Nat => D.int i) (n := 1 + n) (fun p e => ∃ ws x5 x6, e = envWa .pot (.int n) (.bl wrong) ran ws x5 x6 ∧ ws.length = p.length ∧ ∀ w ∈ ws, Sub n w.1 ∧ 1 ≤ w.1.length) (List.range c) [] _ ?_ ?_) ?_ ?_
  · rintro p i q e hp ⟨ws, x5, x6, rfl, h4, h5⟩
    have hl := pre_lt (show List.range c = p ++ i :: q from hp)
    rw [List.length_range] at hl
    obtain ⟨e', h6, h7⟩ := washes_body (gs := gs) (n := n) (wr := .bl wrong) (ran := ran) (ws := ws) (x5 := x5) (x6 := x6) (i := i) h1 hn (by omega) hgs
    refine ⟨e', h6, T.lim_mono (fun z hz => ?_) (Nat.le_refl _) h7⟩
    obtain ⟨z1, w, x5', x6', z2, z3, z4⟩ := hz
    refine ⟨z1, ws ++ [w], x5', x6', z2, by simp [h4], fun v m => ?_⟩
    rcases List.mem_append.mp m with m | m
    · exact h5 v m
    · simp at m; subst m; exact ⟨z3, z4⟩
  · exact ⟨[], none, none, rfl, rfl, fun w m => by cases m⟩
  · rw [List.length_range]
    have : c * (1 + n) ≤ 6 * (1 + 6) := Nat.mul_le_mul hc (by omega)
    omega
  rintro ⟨fl, e⟩ ⟨h4, ws, x5, x6, h5, h6, h7⟩
  dsimp only at h4 h5
  subst h4 h5
  have hwl : ws.length ≤ 6 := by
    have : ws.length = c := by simpa using h6
    omega
  have hbud : 1 ≤ 60 - (1 + n) - 1 - (List.range c).length * (1 + n) := by
    rw [List.length_range]
    have : c * (1 + n) ≤ 6 * (1 + 6) := Nat.mul_le_mul hc (by omega)
    omega
  generalize 60 - (1 + n) - 1 - (List.range c).length * (1 + n) = bud at hbud
  rw [sqK_nx, sSeq_e, sIf_e]
  by_cases hq : wrong = true ∧ ws ≠ []
  · obtain ⟨rfl, hne⟩ := hq
    have hpos : 0 < ws.length := List.length_pos_iff.mpr hne
    have htl := take_e (k := (ws.length : Int)) (by omega) (by omega)
    simp -implicitDefEqProofs [envWa, hne, htl]
    refine T.lim_draw hbud fun d hd => ?_
    have hx : gIx (.lst (ws.map wD)) (.int d) = some (.val (.tup [row ws[d].1, .bl ws[d].2])) := by
      rw [gIx_nat (by simpa using hd)]; simp [wD]
    rw [store_e (l := ws.map wD) (k := d) (d := .tup [row ws[d].1, .bl (!ws[d].2)]) (by simp -implicitDefEqProofs [hx]) rfl (by simp -implicitDefEqProofs) (by simpa using hd)]
    refine T.lim_of (a := (.rt (.lst ((ws.set d (ws[d].1, !ws[d].2)).map wD)), _)) (by simp -implicitDefEqProofs [wD]; rfl) ⟨_, rfl, _, rfl, by simpa using hwl, fun w m => ?_⟩
    rcases List.mem_or_eq_of_mem_set m with m | m
    · exact h7 w m
    · subst m
      exact h7 ws[d] (List.getElem_mem hd)
  · have : (mAnd (mTest (eVar 2)) (mTest (eOp gNe (eVar 4) (eLst hNil)))) (envWa .pot (.int n) (.bl wrong) ran ws x5 x6) = .ret (false, envWa .pot (.int n) (.bl wrong) ran ws x5 x6) := by
      cases wrong with
      | false => simp -implicitDefEqProofs [envWa]
      | true =>
        have : ws = [] := Classical.byContradiction fun h => hq ⟨rfl, h⟩
        subst this
        simp -implicitDefEqProofs [envWa]
    rw [this]
    simp -implicitDefEqProofs [envWa]
    exact ⟨ws, rfl, hwl, h7⟩
end Mi.K17
set_option Elab.async false
set_option linter.all false
set_option maxRecDepth 100000
set_option maxHeartbeats 1000000
namespace Mi.K17
open PySem PySem.Spec PyProof.Rows L2 Mi

section
variable {gb gbo gm gp gso gt gw gwo gfw gmh gnl gto : List D → T D}

theorem r26 {s0 s1 s2 s3 s4 s5 s6 s7 s8 s9 s10 s11 s12 s13 s15 s16 s18 s20 s21 s23 s24 s25 s26 : Slot} {x17 : Bool × D} {due : List (List Int)} {left : Int} {lone : List Int} (h : ∀ c ∈ lone, left ≤ max c ((due.length : Int) - c)) : ∃ e, r__law_right_26 gb gbo gm gp gso gt gw gwo gfw gmh gnl gto [s0, s1, s2, s3, s4, s5, s6, s7, s8, s9, s10, s11, s12, s13, some (false, .lst (due.map row)), s15, s16, some x17, s18, some (false, .int left), s20, s21, some (true, .lst (lone.map .int)), s23, s24, s25, s26] = .ret (.rt (.bl true), e) := by
  unfold r__law_right_26
  have hc : ∀ e : Ev, e = [s0, s1, s2, s3, s4, s5, s6, s7, s8, s9, s10, s11, s12, s13, some (false, .lst (due.map row)), s15, s16, some (false, x17.2), s18, some (false, .int left), s20, s21, some (true, .lst (lone.map .int)), s23, s24, s25, s26] → ∀ u, u = [s0, s1, s2, s3, s4, s5, s6, s7, s8, s9, s10, s11, s12, s13, some (false, .lst (due.map row)), s15, s16, some (false, x17.2), s18, some (false, .int left), s20, s21, some (false, .lst (lone.map .int)), s23, s24, s25, s26] → eComp [17] (iSeq (eVar 22)) (gNm 17) mYes (eOp (gI iLe) (eVar 19) (eCall (hCons (eVar 17) (hCons (eOp (gI iSub) (eCall (hCons (eVar 14) hNil) (g1 lenD)) (eVar 17)) hNil)) (gI2 max))) e = .ret (.tmp (.lst (lone.map fun c => .bl (decide (left ≤ max c ((due.length : Int) - c))))), backE (wipeE u [17]) u [17]) := by
    rintro e rfl u rfl
    rw [comp_each (env1 := [s0, s1, s2, s3, s4, s5, s6, s7, s8, s9, s10, s11, s12, s13, some (false, .lst (due.map row)), s15, s16, some (false, x17.2), s18, some (false, .int left), s20, s21, some (false, .lst (lone.map .int)), s23, s24, s25, s26]) lone D.int (fun c => .bl (decide (left ≤ max c ((due.length : Int) - c))))]
    · simp -implicitDefEqProofs
    · simp [free1]
    · intro c _
      simp -implicitDefEqProofs [wipeE]
  have ha : (lone.all fun c => decide (left ≤ max c ((due.length : Int) - c))) = true := by
    rw [List.all_eq_true]; intro c m; exact decide_eq_true (h c m)
  obtain ⟨q17, d17⟩ := x17
  cases q17 <;> (
    simp -implicitDefEqProofs
    rw [hc _ rfl _ rfl]
    simp -implicitDefEqProofs [allD_map, ha, -List.all_eq_true]
    first | exact ⟨_, rfl⟩ | skip)

def loneL (many : Nat) (due : List (List Int)) : List Int := (List.range many).map fun (l : Nat) => ((due.filter fun s => memI s l).length : Int)

theorem r25 {s0 s1 s2 s3 s4 s6 s7 s8 s9 s10 s11 s12 s13 s15 s16 s18 s20 s21 s23 s26 : Slot} {x22 : Slot} {x17 : Bool × D} {many : Nat} {due : List (List Int)} {left : Int} (hm : many ≤ 12) (h : ∀ c ∈ loneL many due, left ≤ max c ((due.length : Int) - c)) : ∃ e, r__law_right_25 gb gbo gm gp gso gt gw gwo gfw gmh gnl gto [s0, s1, s2, s3, s4, some (false, .int many), s6, s7, s8, s9, s10, s11, s12, s13, some (false, .lst (due.map row)), s15, s16, some x17, s18, some (false, .int left), s20, s21, x22, s23, none, none, s26] = .ret (.rt (.bl true), e) := by
  unfold r__law_right_25
  have hc : eComp [24] (iRng (hCons (eVar 5) hNil)) (gNm 24) mYes (eCall (hCons (eComp [25] (iSeq (eVar 14)) (gNm 25) (mTest (eOp gIn (eVar 24) (eVar 25))) (eVar 25)) hNil) (g1 lenD)) [s0, s1, s2, s3, s4, some (false, .int many), s6, s7, s8, s9, s10, s11, s12, s13, some (false, .lst (due.map row)), s15, s16, some x17, s18, some (false, .int left), s20, s21, x22, s23, none, none, s26] = .ret (.tmp (.lst ((loneL many due).map .int)), [s0, s1, s2, s3, s4, some (false, .int many), s6, s7, s8, s9, s10, s11, s12, s13, some (false, .lst (due.map row)), s15, s16, some x17, s18, some (false, .int left), s20, s21, x22, s23, none, none, s26]) := by
    rw [comp_each (env1 := [s0, s1, s2, s3, s4, some (false, .int many), s6, s7, s8, s9, s10, s11, s12, s13, some (false, .lst (due.map row)), s15, s16, some x17, s18, some (false, .int left), s20, s21, x22, s23, none, none, s26]) (List.range many) (fun i : Nat => D.int i) (fun i : Nat => .int ((due.filter fun s => memI s i).length : Int))]
    · simp -implicitDefEqProofs [wipeE, backE, loneL]
    · exact iRng1_of (by simp) (by omega)
    · simp [free1]
    · intro i _
      simp -implicitDefEqProofs [wipeE]
      rw [comp_map (env1 := [s0, s1, s2, s3, s4, some (false, .int many), s6, s7, s8, s9, s10, s11, s12, s13, some (false, .lst (due.map row)), s15, s16, some x17, s18, some (false, .int left), s20, s21, x22, s23, some (false, .int i), none, s26]) due row (fun s => memI s i) row]
      · simp -implicitDefEqProofs [wipeE, backE]
      · simp -implicitDefEqProofs
      · simp [free1]
      · intro s _
        simp -implicitDefEqProofs [wipeE]
        cases memI s (i : Int) <;> simp -implicitDefEqProofs
  simp -implicitDefEqProofs only [sSeq_e, sSet_e, eFrz_e, frz_nil]
  rw [hc]
  simp -implicitDefEqProofs
  exact r26 h

theorem maxD2 (a b : Int) : maxD (.lst [.int a, .int b]) = some (.val (.int (max a b))) := rfl

theorem r24 {s0 s1 s2 s3 s4 s6 s7 s8 s9 s10 s11 s12 s13 s15 s16 s20 s22 s23 s26 : Slot} {x17 : Bool × D} {many : Nat} {due r0 r1 : List (List Int)} {left n0 n1 : Int} (hm : many ≤ 12) (h1 : left = max n0 n1) (h2 : left ≤ max (r0.length : Int) r1.length) (h : ∀ c ∈ loneL many due, left ≤ max c ((due.length : Int) - c)) : ∃ e, r__law_right_24 gb gbo gm gp gso gt gw gwo gfw gmh gnl gto [s0, s1, s2, s3, s4, some (false, .int many), s6, s7, s8, s9, s10, s11, s12, s13, some (false, .lst (due.map row)), s15, s16, some x17, some (true, .lst [.lst (r0.map row), .lst (r1.map row)]), some (false, .int left), s20, some (true, .lst [.int n0, .int n1]), s22, s23, none, none, s26] = .ret (.rt (.bl true), e) := by
  unfold r__law_right_24
  have h3 : ¬ (max (r0.length : Int) r1.length < left) := by omega
  simp -implicitDefEqProofs [maxD2, h1]
  rw [if_neg (by omega)]
  exact r25 hm (by rw [← h1]; exact h)

theorem r23 {s0 s1 s2 s3 s4 s6 s7 s8 s9 s10 s11 s12 s13 s15 s16 s21 s22 s23 : Slot} {x17 : Bool × D} {many : Nat} {due r0 r1 : List (List Int)} {left : Int} {b : List Int} (hm : many ≤ 12) (h1 : left = max ((due.filter fun s => !hitB s b).length : Int) (due.filter fun s => hitB s b).length) (h2 : left ≤ max (r0.length : Int) r1.length) (h : ∀ c ∈ loneL many due, left ≤ max c ((due.length : Int) - c)) : ∃ e, r__law_right_23 gb gbo gm gp gso gt gw gwo gfw gmh gnl gto [s0, s1, s2, s3, s4, some (false, .int many), s6, s7, s8, s9, s10, s11, s12, s13, some (false, .lst (due.map row)), s15, s16, some x17, some (true, .lst [.lst (r0.map row), .lst (r1.map row)]), some (false, .int left), some (false, row b), s21, s22, s23, none, none, none] = .ret (.rt (.bl true), e) := by
  unfold r__law_right_23
  have hc : eComp [26] (iSeq (eTup (hCons (eC (.bl false)) (hCons (eC (.bl true)) hNil)))) (gNm 26) mYes (eCall (hCons (eComp [25] (iSeq (eVar 14)) (gNm 25) (mTest (eOp gEq (eCall (hCons (eComp [24] (iSeq (eVar 20)) (gNm 24) mYes (eOp gIn (eVar 24) (eVar 25))) hNil) (g1 anyD)) (eVar 26))) (eVar 25)) hNil) (g1 lenD)) [s0, s1, s2, s3, s4, some (false, .int many), s6, s7, s8, s9, s10, s11, s12, s13, some (false, .lst (due.map row)), s15, s16, some x17, some (true, .lst [.lst (r0.map row), .lst (r1.map row)]), some (false, .int left), some (false, row b), s21, s22, s23, none, none, none] = .ret (.tmp (.lst [.int ((due.filter fun s => hitB s b == false).length : Int), .int ((due.filter fun s => hitB s b == true).length : Int)]), [s0, s1, s2, s3, s4, some (false, .int many), s6, s7, s8, s9, s10, s11, s12, s13, some (false, .lst (due.map row)), s15, s16, some x17, some (true, .lst [.lst (r0.map row), .lst (r1.map row)]), some (false, .int left), some (false, row b), s21, s22, s23, none, none, none]) := by
    rw [comp_each (env1 := [s0, s1, s2, s3, s4, some (false, .int many), s6, s7, s8, s9, s10, s11, s12, s13, some (false, .lst (due.map row)), s15, s16, some x17, some (true, .lst [.lst (r0.map row), .lst (r1.map row)]), some (false, .int left), some (false, row b), s21, s22, s23, none, none, none]) [false, true] D.bl (fun w => .int ((due.filter fun s => hitB s b == w).length : Int))]
    · simp -implicitDefEqProofs [wipeE, backE]
    · simp -implicitDefEqProofs
    · simp [free1]
    · intro w _
      simp -implicitDefEqProofs [wipeE]
      rw [comp_map (env1 := [s0, s1, s2, s3, s4, some (false, .int many), s6, s7, s8, s9, s10, s11, s12, s13, some (false, .lst (due.map row)), s15, s16, some x17, some (true, .lst [.lst (r0.map row), .lst (r1.map row)]), some (false, .int left), some (false, row b), s21, s22, s23, none, none, some (false, .bl w)]) due row (fun s => hitB s b == w) row]
      · simp -implicitDefEqProofs [wipeE, backE]
      · simp -implicitDefEqProofs
      · simp [free1]
      · intro s _
        simp -implicitDefEqProofs [wipeE]
        rw [comp_each (env1 := [s0, s1, s2, s3, s4, some (false, .int many), s6, s7, s8, s9, s10, s11, s12, s13, some (false, .lst (due.map row)), s15, s16, some x17, some (true, .lst [.lst (r0.map row), .lst (r1.map row)]), some (false, .int left), some (false, row b), s21, s22, s23, none, some (false, row s), some (false, .bl w)]) b D.int (fun x => .bl (memI s x))]
        · have hq : (b.any fun x => memI s x) = hitB s b := rfl
          simp -implicitDefEqProofs [wipeE, backE, anyD_map]
          rw [hq]
          cases hitB s b <;> cases w <;> simp -implicitDefEqProofs
        · simp -implicitDefEqProofs
        · simp [free1]
        · intro x _
          simp -implicitDefEqProofs [wipeE]
  simp -implicitDefEqProofs only [sSeq_e, sSet_e, eFrz_e, frz_nil]
  rw [hc]
  simp -implicitDefEqProofs
  exact r24 hm h1 h2 h

theorem r22 {s0 s1 s2 s3 s4 s9 s10 s11 s12 s13 s15 s16 s19 s20 s21 s22 s23 : Slot} {W : D} {least most : Int} {x17 : Bool × D} {many : Nat} {due r0 r1 : List (List Int)} {C : List Int → Prop} (hm : many ≤ 12) (hn : (gnl [.int many, W, .int least, .int most]).lim 0 fun d => ∃ l, d = bestD due l ∧ C l) (hC : ∀ l, C l → worst due l = max ((due.filter fun s => !hitB s l).length : Int) (due.filter fun s => hitB s l).length ∧ worst due l ≤ max (r0.length : Int) r1.length ∧ ∀ c ∈ loneL many due, worst due l ≤ max c ((due.length : Int) - c)) : (r__law_right_22 gb gbo gm gp gso gt gw gwo gfw gmh gnl gto [s0, s1, s2, s3, s4, some (false, .int many), some (false, .int least), some (false, .int most), some (false, W), s9, s10, s11, s12, s13, some (false, .lst (due.map row)), s15, s16, some x17, some (true, .lst [.lst (r0.map row), .lst (r1.map row)]), s19, s20, s21, s22, s23, none, none, none]).lim 0 fun r => ∃ e, r = (.rt (.bl true), e) := by
  unfold r__law_right_22
  simp -implicitDefEqProofs only [sSeq_e, sAsg_e, eDef_e]
  simp -implicitDefEqProofs [-exists_and_right, -exists_and_left]
  simp only [T.bind_bind]
  refine T.lim_then hn (Nat.le_refl _) fun d hd => ?_
  obtain ⟨l, rfl, hl⟩ := hd
  obtain ⟨c1, c2, c3⟩ := hC l hl
  simp -implicitDefEqProofs [-exists_and_right, -exists_and_left, lf]
  obtain ⟨e, he⟩ := r23 (s0 := s0) (s1 := s1) (s2 := s2) (s3 := s3) (s4 := s4) (s6 := some (false, .int least)) (s7 := some (false, .int most)) (s8 := some (false, W)) (s9 := s9) (s10 := s10) (s11 := s11) (s12 := s12) (s13 := s13) (s15 := s15) (s16 := s16) (s21 := s21) (s22 := s22) (s23 := s23) (x17 := x17) (many := many) (due := due) (r0 := r0) (r1 := r1) (left := worst due l) (b := l) (gb := gb) (gbo := gbo) (gm := gm) (gp := gp) (gso := gso) (gt := gt) (gw := gw) (gwo := gwo) (gfw := gfw) (gmh := gmh) (gnl := gnl) (gto := gto) hm c1 c2 c3
  rw [he, T.lim_ret]
  exact ⟨e, rfl⟩

theorem r21 {s0 s1 s2 s3 s4 s9 s10 s11 s12 s13 s15 s16 s19 s20 s21 s22 s23 : Slot} {W : D} {least most : Int} {x17 : Bool × D} {many : Nat} {due r0 r1 : List (List Int)} {C : List Int → Prop} (hm : many ≤ 12) (hn : many ≤ 8 → (gnl [.int many, W, .int least, .int most]).lim 0 fun d => ∃ l, d = bestD due l ∧ C l) (hC : ∀ l, C l → worst due l = max ((due.filter fun s => !hitB s l).length : Int) (due.filter fun s => hitB s l).length ∧ worst due l ≤ max (r0.length : Int) r1.length ∧ ∀ c ∈ loneL many due, worst due l ≤ max c ((due.length : Int) - c)) : (r__law_right_21 gb gbo gm gp gso gt gw gwo gfw gmh gnl gto [s0, s1, s2, s3, s4, some (false, .int many), some (false, .int least), some (false, .int most), some (false, W), s9, s10, s11, s12, s13, some (false, .lst (due.map row)), s15, s16, some x17, some (true, .lst [.lst (r0.map row), .lst (r1.map row)]), s19, s20, s21, s22, s23, none, none, none]).lim 0 fun r => ∃ e, r = (.rt (.bl true), e) := by
  unfold r__law_right_21
  simp -implicitDefEqProofs only [sSeq_e, sIf_e]
  simp -implicitDefEqProofs [-exists_and_right, -exists_and_left]
  by_cases h8 : many ≤ 8
  · rw [if_neg (by omega)]
    exact r22 hm (hn h8) hC
  · rw [if_pos (by omega)]
    simp -implicitDefEqProofs

theorem f4 {s0 s1 s2 s3 s4 s9 s10 s13 s15 s16 s19 s20 s21 s22 s23 : Slot} {ws : List Wash} {load : List Int} {w : Bool} {least most : Int} {x17 : Bool × D} {many : Nat} {due r0 r1 : List (List Int)} (hw : ws.length ≤ 30) (hm : gmh [.int many, .tup ((ws ++ [(load, w)]).map wD), .int least, .int most] = .ret (.tup ((if w then r1 else r0).map row))) : f__law_right_4 gb gbo gm gp gso gt gw gwo gfw gmh gnl gto [s0, s1, s2, s3, s4, some (false, .int many), some (false, .int least), some (false, .int most), some (false, .tup (ws.map wD)), s9, s10, some (false, row load), some (false, .bl w), s13, some (false, .lst (due.map row)), s15, s16, some x17, some (true, .lst [.lst (r0.map row), .lst (r1.map row)]), s19, s20, s21, s22, s23, none, none, none] = .ret (.nx, [s0, s1, s2, s3, s4, some (false, .int many), some (false, .int least), some (false, .int most), some (false, .tup (ws.map wD)), s9, s10, some (false, row load), some (false, .bl w), s13, some (false, .lst (due.map row)), s15, s16, some x17, some (true, .lst [.lst (r0.map row), .lst (r1.map row)]), s19, s20, s21, s22, s23, none, none, none]) := by
  unfold f__law_right_4
  have hl : ws.length + 1 ≤ 16777216 := by omega
  simp only [List.map_append, List.map_cons, List.map_nil, wD] at hm
  cases w <;> (
    simp -implicitDefEqProofs [hl]
    unfold wD at *
    simp -implicitDefEqProofs [hm, lf, gNe_rows])

theorem r20 {s0 s1 s2 s3 s4 s9 s10 s12 s13 s15 s16 s19 s20 s21 s22 s23 : Slot} {ws : List Wash} {load : List Int} {least most : Int} {x17 : Bool × D} {many : Nat} {due r0 r1 : List (List Int)} {C : List Int → Prop} (hw : ws.length ≤ 30) (hmh : ∀ w : Bool, gmh [.int many, .tup ((ws ++ [(load, w)]).map wD), .int least, .int most] = .ret (.tup ((if w then r1 else r0).map row))) (hm : many ≤ 12) (hn : many ≤ 8 → (gnl [.int many, .tup (ws.map wD), .int least, .int most]).lim 0 fun d => ∃ l, d = bestD due l ∧ C l) (hC : ∀ l, C l → worst due l = max ((due.filter fun s => !hitB s l).length : Int) (due.filter fun s => hitB s l).length ∧ worst due l ≤ max (r0.length : Int) r1.length ∧ ∀ c ∈ loneL many due, worst due l ≤ max c ((due.length : Int) - c)) : (r__law_right_20 gb gbo gm gp gso gt gw gwo gfw gmh gnl gto [s0, s1, s2, s3, s4, some (false, .int many), some (false, .int least), some (false, .int most), some (false, .tup (ws.map wD)), s9, s10, some (false, row load), s12, s13, some (false, .lst (due.map row)), s15, s16, some x17, some (true, .lst [.lst (r0.map row), .lst (r1.map row)]), s19, s20, s21, s22, s23, none, none, none]).lim 0 fun r => ∃ e, r = (.rt (.bl true), e) := by
  unfold r__law_right_20
  have e1 := f4 (gb := gb) (gbo := gbo) (gm := gm) (gp := gp) (gso := gso) (gt := gt) (gw := gw) (gwo := gwo) (gfw := gfw) (gmh := gmh) (gnl := gnl) (gto := gto) (s0 := s0) (s1 := s1) (s2 := s2) (s3 := s3) (s4 := s4) (s9 := s9) (s10 := s10) (s13 := s13) (s15 := s15) (s16 := s16) (s19 := s19) (s20 := s20) (s21 := s21) (s22 := s22) (s23 := s23) (x17 := x17) (due := due) hw (hmh false)
  have e2 := f4 (gb := gb) (gbo := gbo) (gm := gm) (gp := gp) (gso := gso) (gt := gt) (gw := gw) (gwo := gwo) (gfw := gfw) (gmh := gmh) (gnl := gnl) (gto := gto) (s0 := s0) (s1 := s1) (s2 := s2) (s3 := s3) (s4 := s4) (s9 := s9) (s10 := s10) (s13 := s13) (s15 := s15) (s16 := s16) (s19 := s19) (s20 := s20) (s21 := s21) (s22 := s22) (s23 := s23) (x17 := x17) (due := due) hw (hmh true)
  simp -implicitDefEqProofs only [sSeq_e, sFor_e]
  simp -implicitDefEqProofs [forL, -exists_and_right, -exists_and_left]
  rw [e1]
  simp -implicitDefEqProofs [-exists_and_right, -exists_and_left]
  rw [e2]
  simp -implicitDefEqProofs [-exists_and_right, -exists_and_left]
  exact r21 hm hn hC

theorem r19 {s0 s1 s2 s3 s4 s9 s10 s13 s15 s16 s18 s19 s20 s21 s22 s23 : Slot} {ws : List Wash} {load : List Int} {least most : Int} {x12 : Slot} {x17 : Bool × D} {many : Nat} {due : List (List Int)} {C : List Int → Prop} (hw : ws.length ≤ 30) (hmh : ∀ w : Bool, gmh [.int many, .tup ((ws ++ [(load, w)]).map wD), .int least, .int most] = .ret (.tup ((due.filter fun s => hitB s load == w).map row))) (hm : many ≤ 12) (hn : many ≤ 8 → (gnl [.int many, .tup (ws.map wD), .int least, .int most]).lim 0 fun d => ∃ l, d = bestD due l ∧ C l) (hC : ∀ l, C l → worst due l = max ((due.filter fun s => !hitB s l).length : Int) (due.filter fun s => hitB s l).length ∧ worst due l ≤ max ((due.filter fun s => !hitB s load).length : Int) (due.filter fun s => hitB s load).length ∧ ∀ c ∈ loneL many due, worst due l ≤ max c ((due.length : Int) - c)) : (r__law_right_19 gb gbo gm gp gso gt gw gwo gfw gmh gnl gto [s0, s1, s2, s3, s4, some (false, .int many), some (false, .int least), some (false, .int most), some (false, .tup (ws.map wD)), s9, s10, some (false, row load), x12, s13, some (false, .lst (due.map row)), s15, s16, some x17, s18, s19, s20, s21, s22, s23, none, none, none]).lim 0 fun r => ∃ e, r = (.rt (.bl true), e) := by
  unfold r__law_right_19
  have hc : ∀ y : Slot, (y = none ∨ ∃ d, y = some (false, d)) → eComp [12] (iSeq (eTup (hCons (eC (.bl false)) (hCons (eC (.bl true)) hNil)))) (gNm 12) mYes (eComp [25] (iSeq (eVar 14)) (gNm 25) (mTest (eOp gEq (eCall (hCons (eComp [24] (iSeq (eVar 11)) (gNm 24) mYes (eOp gIn (eVar 24) (eVar 25))) hNil) (g1 anyD)) (eVar 12))) (eVar 25)) [s0, s1, s2, s3, s4, some (false, .int many), some (false, .int least), some (false, .int most), some (false, .tup (ws.map wD)), s9, s10, some (false, row load), y, s13, some (false, .lst (due.map row)), s15, s16, some x17, s18, s19, s20, s21, s22, s23, none, none, none] = .ret (.tmp (.lst [.lst ((due.filter fun s => hitB s load == false).map row), .lst ((due.filter fun s => hitB s load == true).map row)]), [s0, s1, s2, s3, s4, some (false, .int many), some (false, .int least), some (false, .int most), some (false, .tup (ws.map wD)), s9, s10, some (false, row load), y, s13, some (false, .lst (due.map row)), s15, s16, some x17, s18, s19, s20, s21, s22, s23, none, none, none]) := by
    intro y hy
    rw [comp_each (env1 := [s0, s1, s2, s3, s4, some (false, .int many), some (false, .int least), some (false, .int most), some (false, .tup (ws.map wD)), s9, s10, some (false, row load), y, s13, some (false, .lst (due.map row)), s15, s16, some x17, s18, s19, s20, s21, s22, s23, none, none, none]) [false, true] D.bl (fun w => .lst ((due.filter fun s => hitB s load == w).map row))]
    · rcases hy with rfl | ⟨d, rfl⟩ <;> simp -implicitDefEqProofs [wipeE, backE]
    · simp -implicitDefEqProofs
    · rcases hy with rfl | ⟨d, rfl⟩ <;> simp [free1]
    · intro w _
      simp -implicitDefEqProofs [wipeE]
      rw [comp_map (env1 := [s0, s1, s2, s3, s4, some (false, .int many), some (false, .int least), some (false, .int most), some (false, .tup (ws.map wD)), s9, s10, some (false, row load), some (false, .bl w), s13, some (false, .lst (due.map row)), s15, s16, some x17, s18, s19, s20, s21, s22, s23, none, none, none]) due row (fun s => hitB s load == w) row]
      · simp -implicitDefEqProofs [wipeE, backE]
      · simp -implicitDefEqProofs
      · simp [free1]
      · intro s _
        simp -implicitDefEqProofs [wipeE]
        rw [comp_each (env1 := [s0, s1, s2, s3, s4, some (false, .int many), some (false, .int least), some (false, .int most), some (false, .tup (ws.map wD)), s9, s10, some (false, row load), some (false, .bl w), s13, some (false, .lst (due.map row)), s15, s16, some x17, s18, s19, s20, s21, s22, s23, none, some (false, row s), none]) load D.int (fun x => .bl (memI s x))]
        · have hq : (load.any fun x => memI s x) = hitB s load := rfl
          simp -implicitDefEqProofs [wipeE, backE, anyD_map]
          rw [hq]
          cases hitB s load <;> cases w <;> simp -implicitDefEqProofs
        · simp -implicitDefEqProofs
        · simp [free1]
        · intro x _
          simp -implicitDefEqProofs [wipeE]
  have hz : ∃ y : Slot, eFrz [12] (eComp [12] (iSeq (eTup (hCons (eC (.bl false)) (hCons (eC (.bl true)) hNil)))) (gNm 12) mYes (eComp [25] (iSeq (eVar 14)) (gNm 25) (mTest (eOp gEq (eCall (hCons (eComp [24] (iSeq (eVar 11)) (gNm 24) mYes (eOp gIn (eVar 24) (eVar 25))) hNil) (g1 anyD)) (eVar 12))) (eVar 25))) [s0, s1, s2, s3, s4, some (false, .int many), some (false, .int least), some (false, .int most), some (false, .tup (ws.map wD)), s9, s10, some (false, row load), x12, s13, some (false, .lst (due.map row)), s15, s16, some x17, s18, s19, s20, s21, s22, s23, none, none, none] = .ret (.tmp (.lst [.lst ((due.filter fun s => hitB s load == false).map row), .lst ((due.filter fun s => hitB s load == true).map row)]), [s0, s1, s2, s3, s4, some (false, .int many), some (false, .int least), some (false, .int most), some (false, .tup (ws.map wD)), s9, s10, some (false, row load), y, s13, some (false, .lst (due.map row)), s15, s16, some x17, s18, s19, s20, s21, s22, s23, none, none, none]) := by
    rcases x12 with _ | ⟨q, d⟩
    · exact ⟨none, by rw [eFrz_e]; exact hc none (.inl rfl)⟩
    · refine ⟨some (false, d), ?_⟩
      rw [eFrz_e]
      cases q <;> exact hc (some (false, d)) (.inr ⟨d, rfl⟩)
  obtain ⟨y, hz⟩ := hz
  rw [sSeq_e, sSet_e, hz]
  simp -implicitDefEqProofs [-exists_and_right, -exists_and_left]
  exact r20 hw (fun w => by rw [hmh w]; cases w <;> simp) hm hn hC

theorem r18 {s0 s1 s2 s3 s9 s10 s11 s13 s15 s16 s18 s19 s20 s21 s22 s23 : Slot} {od : D} {pos : Int → Int → Int} {la lb : List Int} {ws : List Wash} {least most : Int} {x12 : Slot} {many : Nat} {due : List (List Int)} {C : List Int → Prop} (hla : la.length ≤ 1000) (hlb : lb.length ≤ 1000) (h0 : gp [od, .int 0, .lst (la.map .int)] = .ret (row (put pos 0 la))) (h1 : gp [od, .int 1, .lst (lb.map .int)] = .ret (row (put pos 1 lb))) (hw : ws.length ≤ 30) (hmh : ∀ w : Bool, gmh [.int many, .tup ((ws ++ [((both pos la lb), w)]).map wD), .int least, .int most] = .ret (.tup ((due.filter fun s => hitB s (both pos la lb) == w).map row))) (hm : many ≤ 12) (hn : many ≤ 8 → (gnl [.int many, .tup (ws.map wD), .int least, .int most]).lim 0 fun d => ∃ l, d = bestD due l ∧ C l) (hC : ∀ l, C l → worst due l = max ((due.filter fun s => !hitB s l).length : Int) (due.filter fun s => hitB s l).length ∧ worst due l ≤ max ((due.filter fun s => !hitB s (both pos la lb)).length : Int) (due.filter fun s => hitB s (both pos la lb)).length ∧ ∀ c ∈ loneL many due, worst due l ≤ max c ((due.length : Int) - c)) : (r__law_right_18 gb gbo gm gp gso gt gw gwo gfw gmh gnl gto [s0, s1, s2, s3, some (false, od), some (false, .int many), some (false, .int least), some (false, .int most), some (false, .tup (ws.map wD)), s9, s10, s11, x12, s13, some (false, .lst (due.map row)), s15, s16, some (true, .lst [.lst (la.map .int), .lst (lb.map .int)]), s18, s19, s20, s21, s22, s23, none, none, none]).lim 0 fun r => ∃ e, r = (.rt (.bl true), e) := by
  unfold r__law_right_18
  have l0 : (put pos 0 la).length = la.length := by unfold put; rw [(isrt_perm _).length_eq, List.length_map]
  have l1 : (put pos 1 lb).length = lb.length := by unfold put; rw [(isrt_perm _).length_eq, List.length_map]
  have e : sortedD (.tup ((put pos 0 la).map .int ++ (put pos 1 lb).map .int)) = some (.tmp (.lst ((both pos la lb).map .int))) := by
    rw [← List.map_append]
    exact sorted_ints (put pos 0 la ++ put pos 1 lb)
  simp -implicitDefEqProofs [h0, h1, -exists_and_right, -exists_and_left]
  rw [if_pos (by omega)]
  simp -implicitDefEqProofs [e, -exists_and_right, -exists_and_left]
  exact r19 hw hmh hm hn hC

end
end Mi.K17
set_option Elab.async false
set_option linter.all false
set_option maxRecDepth 100000
set_option maxHeartbeats 1000000
namespace Mi.K17
open PySem PySem.Spec PyProof.Rows L2 Mi

theorem eComp_e {vs : List Nat} {src : MI} {g : GM} {tt : MT} {elt : M} {env : Ev} : eComp vs src g tt elt env = (src env).bind fun r => if vs.all (free1 r.2) = true then (compL g tt elt vs r.1 [] (wipeE r.2 vs)).bind fun q => .ret (.tmp (.lst q.1), backE q.2 r.2 vs) else .fail := rfl
section
variable {gb gbo gm gp gso gt gw gwo gfw gmh gnl gto : List D → T D}

theorem lots_in {s2 s3 s4 s5 s6 s7 s8 s9 s10 s11 s12 s13 s14 s15 s16 s17 s18 s19 s20 s21 s22 s25 s26 : Slot} {z0 z1 : Nat} {z : Nat} (h1 : 1 ≤ z) (h6 : z ≤ 6) (hgs : ∀ n k : Nat, n ≤ 6 → k ≤ n → (gso [.pot, .lst ((lots n).map .int), .int k]).lim k fun d => ∃ ys rest : List Int, d = .lst (ys.map .int) ∧ (ys ++ rest).Perm (lots n) ∧ ys.length = k) : ((eComp [24] (iSeq (eDef gso (hCons (eVar 0) (hCons (eRg1 mkL (eVar 23)) (hCons (eOp gAdd (eC (.int 1)) (eCall (hCons (eDef takeG (hCons (eVar 0) (hCons (eVar 23) hNil))) hNil) (g1 intD))) hNil))))) (gNm 24) mYes (eCall (hCons (eVar 24) hNil) (g1 intD))) [some (false, .pot), some (false, .lst [.int z0, .int z1]), s2, s3, s4, s5, s6, s7, s8, s9, s10, s11, s12, s13, s14, s15, s16, s17, s18, s19, s20, s21, s22, some (false, .int z), none, s25, s26]).lim 7 fun r => ∃ l rest : List Int, (l ++ rest).Perm (lots z) ∧ 1 ≤ l.length ∧ r = (.tmp (.lst (l.map .int)), [some (false, .pot), some (false, .lst [.int z0, .int z1]), s2, s3, s4, s5, s6, s7, s8, s9, s10, s11, s12, s13, s14, s15, s16, s17, s18, s19, s20, s21, s22, some (false, .int z), none, s25, s26]) := by
  have ht := take_e (k := (z : Int)) (by omega) (by omega)
  refine T.lim_mono (fun _ h => h) ?_ (lots_comp (gs := gso) (v := 24) (p := 0) (q := 23) (n := z) (nk := 1) (c := 1) (fun k hk => hgs z k h6 hk) rfl rfl rfl (by omega) ?_)
  · omega
  · simp -implicitDefEqProofs [ht, -exists_and_right, -exists_and_left]
    refine T.lim_draw (by decide) fun d hd => ?_
    simp -implicitDefEqProofs [lf]
    exact ⟨d + 1, by omega, by omega, by push_cast; omega⟩

theorem r17 {s2 s3 s4 s5 s6 s7 s8 s9 s10 s11 s12 s13 s14 s15 s16 s18 s19 s20 s21 s22 s25 s26 : Slot} {q1 : Bool} {s17 : Slot} {z0 z1 : Nat} {Q : Fl × Ev → Prop} (h0 : 1 ≤ z0 ∧ z0 ≤ 6) (h1 : 1 ≤ z1 ∧ z1 ≤ 6) (hgs : ∀ n k : Nat, n ≤ 6 → k ≤ n → (gso [.pot, .lst ((lots n).map .int), .int k]).lim k fun d => ∃ ys rest : List Int, d = .lst (ys.map .int) ∧ (ys ++ rest).Perm (lots n) ∧ ys.length = k) (hk : ∀ la lb ra rb : List Int, (la ++ ra).Perm (lots z0) → 1 ≤ la.length → (lb ++ rb).Perm (lots z1) → 1 ≤ lb.length → (r__law_right_18 gb gbo gm gp gso takeG gw gwo gfw gmh gnl gto [some (false, .pot), some (false, .lst [.int z0, .int z1]), s2, s3, s4, s5, s6, s7, s8, s9, s10, s11, s12, s13, s14, s15, s16, some (true, .lst [.lst (la.map .int), .lst (lb.map .int)]), s18, s19, s20, s21, s22, none, none, s25, s26]).lim 0 Q) : (r__law_right_17 gb gbo gm gp gso takeG gw gwo gfw gmh gnl gto [some (false, .pot), some (q1, .lst [.int z0, .int z1]), s2, s3, s4, s5, s6, s7, s8, s9, s10, s11, s12, s13, s14, s15, s16, s17, s18, s19, s20, s21, s22, none, none, s25, s26]).lim 14 Q := by
  unfold r__law_right_17
  have e0 : iSeq (eVar 1) [some (false, .pot), some (q1, .lst [.int z0, .int z1]), s2, s3, s4, s5, s6, s7, s8, s9, s10, s11, s12, s13, s14, s15, s16, s17, s18, s19, s20, s21, s22, none, none, s25, s26] = .ret ([.int z0, .int z1], [some (false, .pot), some (false, .lst [.int z0, .int z1]), s2, s3, s4, s5, s6, s7, s8, s9, s10, s11, s12, s13, s14, s15, s16, s17, s18, s19, s20, s21, s22, none, none, s25, s26]) := by cases q1 <;> simp -implicitDefEqProofs
  rw [sSeq_e, sSet_e, eFrz_e, frz_nil]
  have hst : ∀ z : Nat, 1 ≤ z → z ≤ 6 → (stepE (gNm 23) mYes (eComp [24] (iSeq (eDef gso (hCons (eVar 0) (hCons (eRg1 mkL (eVar 23)) (hCons (eOp gAdd (eC (.int 1)) (eCall (hCons (eDef takeG (hCons (eVar 0) (hCons (eVar 23) hNil))) hNil) (g1 intD))) hNil))))) (gNm 24) mYes (eCall (hCons (eVar 24) hNil) (g1 intD))) [23] (.int z) [some (false, .pot), some (false, .lst [.int z0, .int z1]), s2, s3, s4, s5, s6, s7, s8, s9, s10, s11, s12, s13, s14, s15, s16, s17, s18, s19, s20, s21, s22, none, none, s25, s26]).lim 7 fun r => ∃ l rest : List Int, (l ++ rest).Perm (lots z) ∧ 1 ≤ l.length ∧ r = (some (.lst (l.map .int)), [some (false, .pot), some (false, .lst [.int z0, .int z1]), s2, s3, s4, s5, s6, s7, s8, s9, s10, s11, s12, s13, s14, s15, s16, s17, s18, s19, s20, s21, s22, none, none, s25, s26]) := fun z hz1 hz6 => by
    have hl := lots_in (s2 := s2) (s3 := s3) (s4 := s4) (s5 := s5) (s6 := s6) (s7 := s7) (s8 := s8) (s9 := s9) (s10 := s10) (s11 := s11) (s12 := s12) (s13 := s13) (s14 := s14) (s15 := s15) (s16 := s16) (s17 := s17) (s18 := s18) (s19 := s19) (s20 := s20) (s21 := s21) (s22 := s22) (s25 := s25) (s26 := s26) (z0 := z0) (z1 := z1) hz1 hz6 hgs
    rw [stepE_e, show gNm 23 (.int z) [some (false, .pot), some (false, .lst [.int z0, .int z1]), s2, s3, s4, s5, s6, s7, s8, s9, s10, s11, s12, s13, s14, s15, s16, s17, s18, s19, s20, s21, s22, none, none, s25, s26] = some [some (false, .pot), some (false, .lst [.int z0, .int z1]), s2, s3, s4, s5, s6, s7, s8, s9, s10, s11, s12, s13, s14, s15, s16, s17, s18, s19, s20, s21, s22, some (false, .int z), none, s25, s26] from by simp, stepE_s, mYes_e, T.ret_bind, if_pos rfl]
    refine T.lim_then hl (Nat.le_refl _) fun r hr => ?_
    obtain ⟨l, rest, p1, p2, rfl⟩ := hr
    refine T.lim_of (a := (some (.lst (l.map .int)), [some (false, .pot), some (false, .lst [.int z0, .int z1]), s2, s3, s4, s5, s6, s7, s8, s9, s10, s11, s12, s13, s14, s15, s16, s17, s18, s19, s20, s21, s22, none, none, s25, s26])) ?_ ⟨l, rest, p1, p2, rfl⟩
    simp -implicitDefEqProofs [wipeE]
  rw [eComp_e, e0, T.ret_bind, if_pos (by simp [free1])]
  rw [show wipeE [some (false, .pot), some (false, .lst [.int z0, .int z1]), s2, s3, s4, s5, s6, s7, s8, s9, s10, s11, s12, s13, s14, s15, s16, s17, s18, s19, s20, s21, s22, none, none, s25, s26] [23] = [some (false, .pot), some (false, .lst [.int z0, .int z1]), s2, s3, s4, s5, s6, s7, s8, s9, s10, s11, s12, s13, s14, s15, s16, s17, s18, s19, s20, s21, s22, none, none, s25, s26] from by simp [wipeE]]
  rw [compL_cons, T.bind_bind, T.bind_bind, T.bind_bind]
  have hz0 := hst z0 h0.1 h0.2
  have hz1 := hst z1 h1.1 h1.2
  refine T.lim_then hz0 (by omega) fun r hr => ?_
  obtain ⟨la, ra, p1, p2, rfl⟩ := hr
  dsimp only
  rw [compL_cons, T.bind_bind]
  refine T.lim_then hz1 (by omega) fun r hr => ?_
  obtain ⟨lb, rb, p3, p4, rfl⟩ := hr
  dsimp only
  have := hk la lb ra rb p1 p2 p3 p4
  simp -implicitDefEqProofs [compL, backE]
  exact this

theorem optD_is (x : Option Nat) : gIsN (optD x) .non = some (.val (.bl x.isSome)) := by cases x <;> rfl

theorem r16 {s0 s1 s2 s3 s4 s9 s10 s11 s12 s13 s15 s16 s17 s18 s19 s20 s21 s22 s23 s24 s25 s26 : Slot} {n : Nat} {Q : Fl × Ev → Prop} {many : Nat} {least most : Int} {ws : List Wash} {due : List (List Int)} {o : Option Nat} (hQ : ∀ e, Q (.rt (.bl true), e)) (hf : gfw [.int many, .tup (ws.map wD), .int least, .int most] = .ret (optD o)) (he : due = [] → o.isSome = true ∨ ws = []) (hk : due ≠ [] → (r__law_right_17 gb gbo gm gp gso gt gw gwo gfw gmh gnl gto [s0, s1, s2, s3, s4, some (false, .int many), some (false, .int least), some (false, .int most), some (false, .tup (ws.map wD)), s9, s10, s11, s12, s13, some (false, .lst (due.map row)), s15, s16, s17, s18, s19, s20, s21, s22, s23, s24, s25, s26]).lim n Q) : (r__law_right_16 gb gbo gm gp gso gt gw gwo gfw gmh gnl gto [s0, s1, s2, s3, s4, some (false, .int many), some (false, .int least), some (false, .int most), some (false, .tup (ws.map wD)), s9, s10, s11, s12, s13, some (false, .lst (due.map row)), s15, s16, s17, s18, s19, s20, s21, s22, s23, s24, s25, s26]).lim n Q := by
  unfold r__law_right_16
  rw [sSeq_e, sIf_e]
  by_cases hd : due = []
  · simp -implicitDefEqProofs [hd, hf, optD_is, lf]
    rcases he hd with h | h
    · simp -implicitDefEqProofs [h]
      exact hQ _
    · subst h
      cases o <;> (simp -implicitDefEqProofs; exact hQ _)
  · simp -implicitDefEqProofs [hd]
    exact hk hd

theorem eRep_same {m1 m2 : M} {env e1 e2 : Ev} {d : D} {h2 : Hd} (a : m1 env = .ret (.val d, e1)) (ok : repOk d = true) (b : m2 e1 = .ret (h2, e2)) (c : rs e2 h2 = some d) : eRep not m1 m2 env = .ret (.val (.bl false), e2) := by
  unfold eRep
  rw [a, T.ret_bind, rs_val]
  dsimp only
  rw [if_pos ok, b, T.ret_bind, c]
  dsimp only
  rw [if_pos ok]
  simp
theorem rep_opt {o : Option Nat} (h : ∀ k, o = some k → k < 1000) : repOk (optD o) = true := by
  cases o with
  | none => rfl
  | some k =>
    have := h k rfl
    simp [repOk, optD, okSh, shC, dpD]
    omega

theorem r15 {s0 s1 s2 s3 s4 s9 s10 s11 s12 s13 s15 s17 s18 s19 s20 s21 s22 s23 s24 s25 s26 : Slot} {n : Nat} {Q : Fl × Ev → Prop} {many : Nat} {least most : Int} {ws : List Wash} {due : List (List Int)} {wr : List Nat} (hf : gfw [.int many, .tup (ws.map wD), .int least, .int most] = .ret (optD wr.head?)) (hw : ∀ k ∈ wr, k < 1000) (hk : (r__law_right_16 gb gbo gm gp gso gt gw gwo gfw gmh gnl gto [s0, s1, s2, s3, s4, some (false, .int many), some (false, .int least), some (false, .int most), some (false, .tup (ws.map wD)), s9, s10, s11, s12, s13, some (false, .lst (due.map row)), s15, some (true, .lst (wr.map fun k : Nat => .int k)), s17, s18, s19, s20, s21, s22, s23, s24, s25, s26]).lim n Q) : (r__law_right_15 gb gbo gm gp gso gt gw gwo gfw gmh gnl gto [s0, s1, s2, s3, s4, some (false, .int many), some (false, .int least), some (false, .int most), some (false, .tup (ws.map wD)), s9, s10, s11, s12, s13, some (false, .lst (due.map row)), s15, some (true, .lst (wr.map fun k : Nat => .int k)), s17, s18, s19, s20, s21, s22, s23, s24, s25, s26]).lim n Q := by
  unfold r__law_right_15
  have h1 : eRep not (eDef gfw (hCons (eVar 5) (hCons (eVar 8) (hCons (eVar 6) (hCons (eVar 7) hNil))))) (eIf (mTest (eOp gNe (eVar 16) (eLst hNil))) (eOp gIx (eVar 16) (eC (.int 0))) (eC .non)) [s0, s1, s2, s3, s4, some (false, .int many), some (false, .int least), some (false, .int most), some (false, .tup (ws.map wD)), s9, s10, s11, s12, s13, some (false, .lst (due.map row)), s15, some (true, .lst (wr.map fun k : Nat => .int k)), s17, s18, s19, s20, s21, s22, s23, s24, s25, s26] = .ret (.val (.bl false), [s0, s1, s2, s3, s4, some (false, .int many), some (false, .int least), some (false, .int most), some (false, .tup (ws.map wD)), s9, s10, s11, s12, s13, some (false, .lst (due.map row)), s15, some (true, .lst (wr.map fun k : Nat => .int k)), s17, s18, s19, s20, s21, s22, s23, s24, s25, s26]) := by
    refine eRep_same (d := optD wr.head?) (e1 := [s0, s1, s2, s3, s4, some (false, .int many), some (false, .int least), some (false, .int most), some (false, .tup (ws.map wD)), s9, s10, s11, s12, s13, some (false, .lst (due.map row)), s15, some (true, .lst (wr.map fun k : Nat => .int k)), s17, s18, s19, s20, s21, s22, s23, s24, s25, s26]) (h2 := .val (optD wr.head?)) ?_ (rep_opt fun k hk => hw k (by cases wr with | nil => cases hk | cons x l => simp at hk; subst hk; simp)) ?_ rfl
    · simp -implicitDefEqProofs [hf]
    · cases wr with
      | nil => simp -implicitDefEqProofs [optD]
      | cons x l => simp -implicitDefEqProofs [optD]
  rw [sSeq_e, sIf_e, mTest_e, h1]
  simp -implicitDefEqProofs
  exact hk

def badI (my : Nat → List (List Int)) (least most : Int) (i : Nat) : Bool := ((my i).filter fun s => decide (least ≤ (s.length : Int)) && decide ((s.length : Int) ≤ most)).isEmpty

theorem f3 {s0 s1 s2 s3 s4 s9 s11 s12 s13 s15 s18 s19 s20 s21 s22 s23 s24 s25 s26 : Slot} {i : Nat} {many : Nat} {least most : Int} {ws : List Wash} {due : List (List Int)} {wr : List Nat} {my : Nat → List (List Int)} (hw : wr.length ≤ 1000) (hmy : ∀ i : Nat, gm [.int many, .tup ((ws.take (i + 1)).map wD)] = .ret (.lst ((my i).map row))) : f__law_right_3 gb gbo gm gp gso gt gw gwo gfw gmh gnl gto [s0, s1, s2, s3, s4, some (false, .int many), some (false, .int least), some (false, .int most), some (false, .tup (ws.map wD)), s9, some (false, .int i), s11, s12, s13, some (false, .lst (due.map row)), s15, some (true, .lst (wr.map fun k : Nat => .int k)), none, s18, s19, s20, s21, s22, s23, s24, s25, s26] = .ret (.nx, [s0, s1, s2, s3, s4, some (false, .int many), some (false, .int least), some (false, .int most), some (false, .tup (ws.map wD)), s9, some (false, .int i), s11, s12, s13, some (false, .lst (due.map row)), s15, some (true, .lst ((wr ++ if badI my least most i then [i] else []).map fun k : Nat => .int k)), none, s18, s19, s20, s21, s22, s23, s24, s25, s26]) := by
  unfold f__law_right_3
  have hcut : cutD (ws.map wD) none (some ((i : Int) + 1)) = (ws.take (i + 1)).map wD := by
    have := cut_to (ws.map wD) (i + 1)
    push_cast at this
    rw [this, List.map_take]
  have hw' : (wr.map fun k : Nat => D.int k).length < 16777216 := by simp; omega
  have hc : eComp [17] (iSeq (eDef gm (hCons (eVar 5) (hCons (eSl (eVar 8) oNone (oSome (eOp gAdd (eVar 10) (eC (.int 1))))) hNil)))) (gNm 17) (mTest (eChain (gI iLe) (gI iLe) (eVar 6) (eCall (hCons (eVar 17) hNil) (g1 lenD)) (eVar 7))) (eVar 17) [s0, s1, s2, s3, s4, some (false, .int many), some (false, .int least), some (false, .int most), some (false, .tup (ws.map wD)), s9, some (false, .int i), s11, s12, s13, some (false, .lst (due.map row)), s15, some (true, .lst (wr.map fun k : Nat => .int k)), none, s18, s19, s20, s21, s22, s23, s24, s25, s26] = .ret (.tmp (.lst (((my i).filter fun s => decide (least ≤ (s.length : Int)) && decide ((s.length : Int) ≤ most)).map row)), [s0, s1, s2, s3, s4, some (false, .int many), some (false, .int least), some (false, .int most), some (false, .tup (ws.map wD)), s9, some (false, .int i), s11, s12, s13, some (false, .lst (due.map row)), s15, some (true, .lst (wr.map fun k : Nat => .int k)), none, s18, s19, s20, s21, s22, s23, s24, s25, s26]) := by
    rw [comp_map (env1 := [s0, s1, s2, s3, s4, some (false, .int many), some (false, .int least), some (false, .int most), some (false, .tup (ws.map wD)), s9, some (false, .int i), s11, s12, s13, some (false, .lst (due.map row)), s15, some (true, .lst (wr.map fun k : Nat => .int k)), none, s18, s19, s20, s21, s22, s23, s24, s25, s26]) (my i) row (fun s => decide (least ≤ (s.length : Int)) && decide ((s.length : Int) ≤ most)) row]
    · simp -implicitDefEqProofs [wipeE, backE]
    · have hmy' := hmy i
      rw [List.map_take] at hmy'
      simp -implicitDefEqProofs [hcut, hmy']
    · simp [free1]
    · intro s _
      simp -implicitDefEqProofs [wipeE]
      by_cases c1 : least ≤ (s.length : Int)
      · by_cases c2 : (s.length : Int) ≤ most <;> simp -implicitDefEqProofs [c1, c2]
      · simp -implicitDefEqProofs [c1]
  have hz : eFrz [17] (eComp [17] (iSeq (eDef gm (hCons (eVar 5) (hCons (eSl (eVar 8) oNone (oSome (eOp gAdd (eVar 10) (eC (.int 1))))) hNil)))) (gNm 17) (mTest (eChain (gI iLe) (gI iLe) (eVar 6) (eCall (hCons (eVar 17) hNil) (g1 lenD)) (eVar 7))) (eVar 17)) [s0, s1, s2, s3, s4, some (false, .int many), some (false, .int least), some (false, .int most), some (false, .tup (ws.map wD)), s9, some (false, .int i), s11, s12, s13, some (false, .lst (due.map row)), s15, some (true, .lst (wr.map fun k : Nat => .int k)), none, s18, s19, s20, s21, s22, s23, s24, s25, s26] = .ret (.tmp (.lst (((my i).filter fun s => decide (least ≤ (s.length : Int)) && decide ((s.length : Int) ≤ most)).map row)), [s0, s1, s2, s3, s4, some (false, .int many), some (false, .int least), some (false, .int most), some (false, .tup (ws.map wD)), s9, some (false, .int i), s11, s12, s13, some (false, .lst (due.map row)), s15, some (true, .lst (wr.map fun k : Nat => .int k)), none, s18, s19, s20, s21, s22, s23, s24, s25, s26]) := by
    rw [eFrz_e]
    exact hc
  rw [sIf_e, mTest_e, eOp_e, hz]
  unfold badI
  generalize (my i).filter (fun s => decide (least ≤ (s.length : Int)) && decide ((s.length : Int) ≤ most)) = R
  cases R with
  | nil => simp -implicitDefEqProofs [append_e hw']
  | cons x R => simp -implicitDefEqProofs

theorem r14 {s0 s1 s2 s3 s4 s9 s10 s11 s12 s13 s15 s18 s19 s20 s21 s22 s23 s24 s25 s26 : Slot} {n : Nat} {Q : Fl × Ev → Prop} {many : Nat} {least most : Int} {ws : List Wash} {due : List (List Int)} {my : Nat → List (List Int)} (hl : ws.length ≤ 1000) (hmy : ∀ i : Nat, gm [.int many, .tup ((ws.take (i + 1)).map wD)] = .ret (.lst ((my i).map row))) (hk : ∀ x10 : Slot, (r__law_right_15 gb gbo gm gp gso gt gw gwo gfw gmh gnl gto [s0, s1, s2, s3, s4, some (false, .int many), some (false, .int least), some (false, .int most), some (false, .tup (ws.map wD)), s9, x10, s11, s12, s13, some (false, .lst (due.map row)), s15, some (true, .lst (((List.range ws.length).filter (badI my least most)).map fun k : Nat => .int k)), none, s18, s19, s20, s21, s22, s23, s24, s25, s26]).lim n Q) : (r__law_right_14 gb gbo gm gp gso gt gw gwo gfw gmh gnl gto [s0, s1, s2, s3, s4, some (false, .int many), some (false, .int least), some (false, .int most), some (false, .tup (ws.map wD)), s9, s10, s11, s12, s13, some (false, .lst (due.map row)), s15, some (true, .lst []), none, s18, s19, s20, s21, s22, s23, s24, s25, s26]).lim n Q := by
  unfold r__law_right_14
  have e2 : iRng (hCons (eCall (hCons (eVar 8) hNil) (g1 lenD)) hNil) [s0, s1, s2, s3, s4, some (false, .int many), some (false, .int least), some (false, .int most), some (false, .tup (ws.map wD)), s9, s10, s11, s12, s13, some (false, .lst (due.map row)), s15, some (true, .lst []), none, s18, s19, s20, s21, s22, s23, s24, s25, s26] = .ret ((List.range ws.length).map fun i : Nat => D.int i, [s0, s1, s2, s3, s4, some (false, .int many), some (false, .int least), some (false, .int most), some (false, .tup (ws.map wD)), s9, s10, s11, s12, s13, some (false, .lst (due.map row)), s15, some (true, .lst []), none, s18, s19, s20, s21, s22, s23, s24, s25, s26]) := iRng1_of (by simp -implicitDefEqProofs) (by omega)
  have e1 := forL_of (f := fun i : Nat => D.int i) (g := gNm 10) (body := f__law_right_3 gb gbo gm gp gso gt gw gwo gfw gmh gnl gto) (fun pre => [s0, s1, s2, s3, s4, some (false, .int many), some (false, .int least), some (false, .int most), some (false, .tup (ws.map wD)), s9, (lastS (fun i : Nat => (false, D.int i)) pre).or s10, s11, s12, s13, some (false, .lst (due.map row)), s15, some (true, .lst ((pre.filter (badI my least most)).map fun k : Nat => .int k)), none, s18, s19, s20, s21, s22, s23, s24, s25, s26]) (items := List.range ws.length) (e0 := [s0, s1, s2, s3, s4, some (false, .int many), some (false, .int least), some (false, .int most), some (false, .tup (ws.map wD)), s9, s10, s11, s12, s13, some (false, .lst (due.map row)), s15, some (true, .lst []), none, s18, s19, s20, s21, s22, s23, s24, s25, s26]) (by simp) (fun p i q hp => by
    refine ⟨_, by simp; rfl, ?_⟩
    have hlt := pre_lt hp
    rw [List.length_range] at hlt
    have h3 := f3 (gb := gb) (gbo := gbo) (gm := gm) (gp := gp) (gso := gso) (gt := gt) (gw := gw) (gwo := gwo) (gfw := gfw) (gmh := gmh) (gnl := gnl) (gto := gto) (s0 := s0) (s1 := s1) (s2 := s2) (s3 := s3) (s4 := s4) (s9 := s9) (s11 := s11) (s12 := s12) (s13 := s13) (s15 := s15) (s18 := s18) (s19 := s19) (s20 := s20) (s21 := s21) (s22 := s22) (s23 := s23) (s24 := s24) (s25 := s25) (s26 := s26) (i := i) (many := many) (least := least) (most := most) (ws := ws) (due := due) (wr := p.filter (badI my least most)) (my := my) (by have := List.length_filter_le (badI my least most) p; omega) hmy
    rw [h3]
    have : (p ++ [i]).filter (badI my least most) = p.filter (badI my least most) ++ if badI my least most i then [i] else [] := by
      rw [List.filter_append]; cases h : badI my least most i <;> simp [h]
    rw [this]
    simp)
  rw [sSeq_e, sFor_e, e2, T.ret_bind]
  dsimp only
  rw [e1, T.ret_bind, sqK_nx]
  exact hk _

end
end Mi.K17
set_option Elab.async false
set_option linter.all false
set_option maxRecDepth 100000
set_option maxHeartbeats 1000000
namespace Mi.K17
open PySem PySem.Spec PyProof.Rows L2 Mi

theorem okSh_ints : ∀ l : List Int, (∀ x ∈ l, 0 ≤ x ∧ x < 1000) → okShs (l.map .int) = true
  | [], _ => rfl
  | x :: l, h => by
    have := h x (by simp)
    simp only [List.map_cons, okShs, okSh, okSh_ints l (fun y m => h y (by simp [m])), Bool.and_true, decide_eq_true_eq]
    omega
theorem shC_ints : ∀ l : List Int, shCs (l.map .int) = 24 * l.length
  | [] => rfl
  | x :: l => by
    simp only [List.map_cons, shCs, shC, shC_ints l, List.length_cons]
    omega
theorem dpD_ints : ∀ l : List Int, dpDs (l.map .int) = 0
  | [] => rfl
  | x :: l => by simp only [List.map_cons, dpDs, dpD, dpD_ints l]; rfl
theorem rows_rep : ∀ L : List (List Int), (∀ s ∈ L, s.length ≤ 12 ∧ ∀ x ∈ s, 0 ≤ x ∧ x < 1000) → okShs (L.map row) = true ∧ shCs (L.map row) ≤ 300 * L.length ∧ dpDs (L.map row) ≤ 1
  | [], _ => ⟨rfl, by simp [shCs], by simp [dpDs]⟩
  | s :: L, h => by
    obtain ⟨a, b, c⟩ := rows_rep L fun t m => h t (by simp [m])
    obtain ⟨d, e⟩ := h s (by simp)
    have e1 : shC (row s) = 24 * s.length + 2 := by
      show shCs (s.map .int) + 2 = _
      rw [shC_ints]
    have e2 : dpD (row s) = 1 := by
      show dpDs (s.map .int) + 1 = _
      rw [dpD_ints]
    have e3 : okSh (row s) = true := okSh_ints s e
    refine ⟨?_, ?_, ?_⟩
    · show (okSh (row s) && okShs (L.map row)) = true
      rw [e3, a]; rfl
    · show shC (row s) + 2 + shCs (L.map row) ≤ 300 * (L.length + 1)
      rw [e1]; omega
    · show max (dpD (row s)) (dpDs (L.map row)) ≤ 1
      rw [e2]; omega
theorem rep_rows {L : List (List Int)} (hL : L.length ≤ 10000) (h : ∀ s ∈ L, s.length ≤ 12 ∧ ∀ x ∈ s, 0 ≤ x ∧ x < 1000) : repOk (.tup (L.map row)) = true := by
  obtain ⟨a, b, c⟩ := rows_rep L h
  have e1 : shC (.tup (L.map row)) = shCs (L.map row) + 2 := rfl
  have e2 : dpD (.tup (L.map row)) = dpDs (L.map row) + 1 := rfl
  have e3 : okSh (.tup (L.map row)) = okShs (L.map row) := rfl
  unfold repOk
  rw [e1, e2, e3, a, decide_eq_true (by omega), decide_eq_true (by omega)]
  rfl
end Mi.K17
set_option Elab.async false
set_option linter.all false
set_option maxRecDepth 100000
set_option maxHeartbeats 1000000
namespace Mi.K17
open PySem PySem.Spec PyProof.Rows L2 Mi

section
variable {gb gbo gm gp gso gt gw gwo gfw gmh gnl gto : List D → T D}

theorem r13 {s0 s2 s4 s9 s10 s11 s12 s15 s16 s18 s19 s20 s21 s22 s23 s24 s25 s26 : Slot} {n : Nat} {Q : Fl × Ev → Prop} {z0 z1 many : Nat} {least most : Int} {ws h0 h1 : List Wash} {due m0 m1 : List (List Int)} (hk : (r__law_right_14 gb gbo gm gp gso gt gw gwo gfw gmh gnl gto [s0, some (true, .lst [.int z0, .int z1]), s2, some (true, .lst [.lst (h0.map wD), .lst (h1.map wD)]), s4, some (false, .int many), some (false, .int least), some (false, .int most), some (false, .tup (ws.map wD)), s9, s10, s11, s12, some (false, .lst [.lst (m0.map row), .lst (m1.map row)]), some (false, .lst (due.map row)), s15, some (true, .lst []), none, s18, s19, s20, s21, s22, s23, s24, s25, s26]).lim n Q) : (r__law_right_13 gb gbo gm gp gso gt gw gwo gfw gmh gnl gto [s0, some (true, .lst [.int z0, .int z1]), s2, some (true, .lst [.lst (h0.map wD), .lst (h1.map wD)]), s4, some (false, .int many), some (false, .int least), some (false, .int most), some (false, .tup (ws.map wD)), s9, s10, s11, s12, some (false, .lst [.lst (m0.map row), .lst (m1.map row)]), some (false, .lst (due.map row)), s15, s16, none, s18, s19, s20, s21, s22, s23, s24, s25, s26]).lim n Q := by
  unfold r__law_right_13
  simp -implicitDefEqProofs
  exact hk

theorem f2_0 {s0 s2 s4 s10 s11 s12 s16 s18 s19 s20 s21 s22 s23 s24 s25 s26 : Slot} {x15 : Slot} {z0 z1 many : Nat} {least most : Int} {ws h0 h1 : List Wash} {due m0 m1 : List (List Int)} (hm : gmh [.int z0, .tup (h0.map wD), .int 0, .int (min 3 (z0 : Int))] = .ret (.tup (m0.map row))) (ok : repOk (.tup (m0.map row)) = true) : f__law_right_2 gb gbo gm gp gso gt gw gwo gfw gmh gnl gto [s0, some (true, .lst [.int z0, .int z1]), s2, some (true, .lst [.lst (h0.map wD), .lst (h1.map wD)]), s4, some (false, .int many), some (false, .int least), some (false, .int most), some (false, .tup (ws.map wD)), some (false, .int 0), s10, s11, s12, some (false, .lst [.lst (m0.map row), .lst (m1.map row)]), some (false, .lst (due.map row)), x15, s16, none, s18, s19, s20, s21, s22, s23, s24, s25, s26] = .ret (.nx, [s0, some (true, .lst [.int z0, .int z1]), s2, some (true, .lst [.lst (h0.map wD), .lst (h1.map wD)]), s4, some (false, .int many), some (false, .int least), some (false, .int most), some (false, .tup (ws.map wD)), some (false, .int 0), s10, s11, s12, some (false, .lst [.lst (m0.map row), .lst (m1.map row)]), some (false, .lst (due.map row)), some (false, .int (min 3 (z0 : Int))), s16, none, s18, s19, s20, s21, s22, s23, s24, s25, s26]) := by
  unfold f__law_right_2
  have h1 : eRep not (eDef gmh (hCons (eOp gIx (eVar 1) (eVar 9)) (hCons (eCall (hCons (eOp gIx (eVar 3) (eVar 9)) hNil) (g1 tupleD)) (hCons (eC (.int 0)) (hCons (eVar 15) hNil))))) (eCall (hCons (eOp gIx (eVar 13) (eVar 9)) hNil) (g1 tupleD)) [s0, some (true, .lst [.int z0, .int z1]), s2, some (true, .lst [.lst (h0.map wD), .lst (h1.map wD)]), s4, some (false, .int many), some (false, .int least), some (false, .int most), some (false, .tup (ws.map wD)), some (false, .int 0), s10, s11, s12, some (false, .lst [.lst (m0.map row), .lst (m1.map row)]), some (false, .lst (due.map row)), some (false, .int (min 3 (z0 : Int))), s16, none, s18, s19, s20, s21, s22, s23, s24, s25, s26] = .ret (.val (.bl false), [s0, some (true, .lst [.int z0, .int z1]), s2, some (true, .lst [.lst (h0.map wD), .lst (h1.map wD)]), s4, some (false, .int many), some (false, .int least), some (false, .int most), some (false, .tup (ws.map wD)), some (false, .int 0), s10, s11, s12, some (false, .lst [.lst (m0.map row), .lst (m1.map row)]), some (false, .lst (due.map row)), some (false, .int (min 3 (z0 : Int))), s16, none, s18, s19, s20, s21, s22, s23, s24, s25, s26]) := by
    refine eRep_same (d := .tup (m0.map row)) (e1 := [s0, some (true, .lst [.int z0, .int z1]), s2, some (true, .lst [.lst (h0.map wD), .lst (h1.map wD)]), s4, some (false, .int many), some (false, .int least), some (false, .int most), some (false, .tup (ws.map wD)), some (false, .int 0), s10, s11, s12, some (false, .lst [.lst (m0.map row), .lst (m1.map row)]), some (false, .lst (due.map row)), some (false, .int (min 3 (z0 : Int))), s16, none, s18, s19, s20, s21, s22, s23, s24, s25, s26]) (h2 := .val (.tup (m0.map row))) ?_ ok ?_ rfl
    · simp -implicitDefEqProofs [hm]
    · simp -implicitDefEqProofs
  simp -implicitDefEqProofs only [sSeq_e, sSet_e, sIf_e, mTest_e]
  simp -implicitDefEqProofs
  rw [h1]
  simp -implicitDefEqProofs

theorem f2_1 {s0 s2 s4 s10 s11 s12 s16 s18 s19 s20 s21 s22 s23 s24 s25 s26 : Slot} {x15 : Slot} {z0 z1 many : Nat} {least most : Int} {ws h0 h1 : List Wash} {due m0 m1 : List (List Int)} (hm : gmh [.int z1, .tup (h1.map wD), .int 0, .int (min 3 (z1 : Int))] = .ret (.tup (m1.map row))) (ok : repOk (.tup (m1.map row)) = true) : f__law_right_2 gb gbo gm gp gso gt gw gwo gfw gmh gnl gto [s0, some (true, .lst [.int z0, .int z1]), s2, some (true, .lst [.lst (h0.map wD), .lst (h1.map wD)]), s4, some (false, .int many), some (false, .int least), some (false, .int most), some (false, .tup (ws.map wD)), some (false, .int 1), s10, s11, s12, some (false, .lst [.lst (m0.map row), .lst (m1.map row)]), some (false, .lst (due.map row)), x15, s16, none, s18, s19, s20, s21, s22, s23, s24, s25, s26] = .ret (.nx, [s0, some (true, .lst [.int z0, .int z1]), s2, some (true, .lst [.lst (h0.map wD), .lst (h1.map wD)]), s4, some (false, .int many), some (false, .int least), some (false, .int most), some (false, .tup (ws.map wD)), some (false, .int 1), s10, s11, s12, some (false, .lst [.lst (m0.map row), .lst (m1.map row)]), some (false, .lst (due.map row)), some (false, .int (min 3 (z1 : Int))), s16, none, s18, s19, s20, s21, s22, s23, s24, s25, s26]) := by
  unfold f__law_right_2
  have h1 : eRep not (eDef gmh (hCons (eOp gIx (eVar 1) (eVar 9)) (hCons (eCall (hCons (eOp gIx (eVar 3) (eVar 9)) hNil) (g1 tupleD)) (hCons (eC (.int 0)) (hCons (eVar 15) hNil))))) (eCall (hCons (eOp gIx (eVar 13) (eVar 9)) hNil) (g1 tupleD)) [s0, some (true, .lst [.int z0, .int z1]), s2, some (true, .lst [.lst (h0.map wD), .lst (h1.map wD)]), s4, some (false, .int many), some (false, .int least), some (false, .int most), some (false, .tup (ws.map wD)), some (false, .int 1), s10, s11, s12, some (false, .lst [.lst (m0.map row), .lst (m1.map row)]), some (false, .lst (due.map row)), some (false, .int (min 3 (z1 : Int))), s16, none, s18, s19, s20, s21, s22, s23, s24, s25, s26] = .ret (.val (.bl false), [s0, some (true, .lst [.int z0, .int z1]), s2, some (true, .lst [.lst (h0.map wD), .lst (h1.map wD)]), s4, some (false, .int many), some (false, .int least), some (false, .int most), some (false, .tup (ws.map wD)), some (false, .int 1), s10, s11, s12, some (false, .lst [.lst (m0.map row), .lst (m1.map row)]), some (false, .lst (due.map row)), some (false, .int (min 3 (z1 : Int))), s16, none, s18, s19, s20, s21, s22, s23, s24, s25, s26]) := by
    refine eRep_same (d := .tup (m1.map row)) (e1 := [s0, some (true, .lst [.int z0, .int z1]), s2, some (true, .lst [.lst (h0.map wD), .lst (h1.map wD)]), s4, some (false, .int many), some (false, .int least), some (false, .int most), some (false, .tup (ws.map wD)), some (false, .int 1), s10, s11, s12, some (false, .lst [.lst (m0.map row), .lst (m1.map row)]), some (false, .lst (due.map row)), some (false, .int (min 3 (z1 : Int))), s16, none, s18, s19, s20, s21, s22, s23, s24, s25, s26]) (h2 := .val (.tup (m1.map row))) ?_ ok ?_ rfl
    · simp -implicitDefEqProofs [hm]
    · simp -implicitDefEqProofs
  simp -implicitDefEqProofs only [sSeq_e, sSet_e, sIf_e, mTest_e]
  simp -implicitDefEqProofs
  rw [h1]
  simp -implicitDefEqProofs

theorem r12 {s0 s2 s4 s9 s10 s11 s12 s15 s16 s18 s19 s20 s21 s22 s23 s24 s25 s26 : Slot} {n : Nat} {Q : Fl × Ev → Prop} {z0 z1 many : Nat} {least most : Int} {ws h0 h1 : List Wash} {due m0 m1 : List (List Int)} (q0 : gmh [.int z0, .tup (h0.map wD), .int 0, .int (min 3 (z0 : Int))] = .ret (.tup (m0.map row))) (k0 : repOk (.tup (m0.map row)) = true) (q1 : gmh [.int z1, .tup (h1.map wD), .int 0, .int (min 3 (z1 : Int))] = .ret (.tup (m1.map row))) (k1 : repOk (.tup (m1.map row)) = true) (hk : ∀ x9 x15 : Slot, (r__law_right_13 gb gbo gm gp gso gt gw gwo gfw gmh gnl gto [s0, some (true, .lst [.int z0, .int z1]), s2, some (true, .lst [.lst (h0.map wD), .lst (h1.map wD)]), s4, some (false, .int many), some (false, .int least), some (false, .int most), some (false, .tup (ws.map wD)), x9, s10, s11, s12, some (false, .lst [.lst (m0.map row), .lst (m1.map row)]), some (false, .lst (due.map row)), x15, s16, none, s18, s19, s20, s21, s22, s23, s24, s25, s26]).lim n Q) : (r__law_right_12 gb gbo gm gp gso gt gw gwo gfw gmh gnl gto [s0, some (true, .lst [.int z0, .int z1]), s2, some (true, .lst [.lst (h0.map wD), .lst (h1.map wD)]), s4, some (false, .int many), some (false, .int least), some (false, .int most), some (false, .tup (ws.map wD)), s9, s10, s11, s12, some (false, .lst [.lst (m0.map row), .lst (m1.map row)]), some (false, .lst (due.map row)), s15, s16, none, s18, s19, s20, s21, s22, s23, s24, s25, s26]).lim n Q := by
  unfold r__law_right_12
  have e1 := f2_0 (gb := gb) (gbo := gbo) (gm := gm) (gp := gp) (gso := gso) (gt := gt) (gw := gw) (gwo := gwo) (gfw := gfw) (gmh := gmh) (gnl := gnl) (gto := gto) (s0 := s0) (s2 := s2) (s4 := s4) (s10 := s10) (s11 := s11) (s12 := s12) (s16 := s16) (s18 := s18) (s19 := s19) (s20 := s20) (s21 := s21) (s22 := s22) (s23 := s23) (s24 := s24) (s25 := s25) (s26 := s26) (x15 := s15) (many := many) (least := least) (most := most) (ws := ws) (h1 := h1) (due := due) (z1 := z1) (m1 := m1) q0 k0
  have e2 := f2_1 (gb := gb) (gbo := gbo) (gm := gm) (gp := gp) (gso := gso) (gt := gt) (gw := gw) (gwo := gwo) (gfw := gfw) (gmh := gmh) (gnl := gnl) (gto := gto) (s0 := s0) (s2 := s2) (s4 := s4) (s10 := s10) (s11 := s11) (s12 := s12) (s16 := s16) (s18 := s18) (s19 := s19) (s20 := s20) (s21 := s21) (s22 := s22) (s23 := s23) (s24 := s24) (s25 := s25) (s26 := s26) (x15 := some (false, .int (min 3 (z0 : Int)))) (many := many) (least := least) (most := most) (ws := ws) (h0 := h0) (due := due) (z0 := z0) (m0 := m0) q1 k1
  simp -implicitDefEqProofs only [sSeq_e, sFor_e]
  simp -implicitDefEqProofs [forL]
  rw [e1]
  simp -implicitDefEqProofs
  rw [e2]
  simp -implicitDefEqProofs
  exact hk _ _

theorem r11 {s0 s2 s4 s9 s10 s11 s12 s15 s16 s18 s19 s20 s21 s22 s23 s24 s25 s26 : Slot} {n : Nat} {Q : Fl × Ev → Prop} {z0 z1 many : Nat} {least most : Int} {ws h0 h1 : List Wash} {due m0 m1 : List (List Int)} {dw : D} (q : gto [.int many, .tup (ws.map wD), .int least, .int most] = .ret dw) (q2 : gwo [.int many, .lst (due.map row)] = .ret dw) (ok : repOk dw = true) (hk : (r__law_right_12 gb gbo gm gp gso gt gw gwo gfw gmh gnl gto [s0, some (true, .lst [.int z0, .int z1]), s2, some (true, .lst [.lst (h0.map wD), .lst (h1.map wD)]), s4, some (false, .int many), some (false, .int least), some (false, .int most), some (false, .tup (ws.map wD)), s9, s10, s11, s12, some (false, .lst [.lst (m0.map row), .lst (m1.map row)]), some (false, .lst (due.map row)), s15, s16, none, s18, s19, s20, s21, s22, s23, s24, s25, s26]).lim n Q) : (r__law_right_11 gb gbo gm gp gso gt gw gwo gfw gmh gnl gto [s0, some (true, .lst [.int z0, .int z1]), s2, some (true, .lst [.lst (h0.map wD), .lst (h1.map wD)]), s4, some (false, .int many), some (false, .int least), some (false, .int most), some (false, .tup (ws.map wD)), s9, s10, s11, s12, some (false, .lst [.lst (m0.map row), .lst (m1.map row)]), some (false, .lst (due.map row)), s15, s16, none, s18, s19, s20, s21, s22, s23, s24, s25, s26]).lim n Q := by
  unfold r__law_right_11
  have h1 : eRep not (eDef gto (hCons (eVar 5) (hCons (eVar 8) (hCons (eVar 6) (hCons (eVar 7) hNil))))) (eDef gwo (hCons (eVar 5) (hCons (eVar 14) hNil))) [s0, some (true, .lst [.int z0, .int z1]), s2, some (true, .lst [.lst (h0.map wD), .lst (h1.map wD)]), s4, some (false, .int many), some (false, .int least), some (false, .int most), some (false, .tup (ws.map wD)), s9, s10, s11, s12, some (false, .lst [.lst (m0.map row), .lst (m1.map row)]), some (false, .lst (due.map row)), s15, s16, none, s18, s19, s20, s21, s22, s23, s24, s25, s26] = .ret (.val (.bl false), [s0, some (true, .lst [.int z0, .int z1]), s2, some (true, .lst [.lst (h0.map wD), .lst (h1.map wD)]), s4, some (false, .int many), some (false, .int least), some (false, .int most), some (false, .tup (ws.map wD)), s9, s10, s11, s12, some (false, .lst [.lst (m0.map row), .lst (m1.map row)]), some (false, .lst (due.map row)), s15, s16, none, s18, s19, s20, s21, s22, s23, s24, s25, s26]) := by
    refine eRep_same (d := dw) (e1 := [s0, some (true, .lst [.int z0, .int z1]), s2, some (true, .lst [.lst (h0.map wD), .lst (h1.map wD)]), s4, some (false, .int many), some (false, .int least), some (false, .int most), some (false, .tup (ws.map wD)), s9, s10, s11, s12, some (false, .lst [.lst (m0.map row), .lst (m1.map row)]), some (false, .lst (due.map row)), s15, s16, none, s18, s19, s20, s21, s22, s23, s24, s25, s26]) (h2 := .val dw) ?_ ok ?_ rfl
    · simp -implicitDefEqProofs [q]
    · simp -implicitDefEqProofs [q2]
  rw [sSeq_e, sIf_e, mTest_e, h1]
  simp -implicitDefEqProofs
  exact hk

theorem r10 {s0 s2 s4 s9 s10 s11 s12 s15 s16 s18 s19 s20 s21 s22 s23 s24 s25 s26 : Slot} {n : Nat} {Q : Fl × Ev → Prop} {z0 z1 many : Nat} {least most : Int} {ws h0 h1 : List Wash} {due m0 m1 : List (List Int)} (q : gmh [.int many, .tup (ws.map wD), .int least, .int most] = .ret (.tup (due.map row))) (ok : repOk (.tup (due.map row)) = true) (hk : (r__law_right_11 gb gbo gm gp gso gt gw gwo gfw gmh gnl gto [s0, some (true, .lst [.int z0, .int z1]), s2, some (true, .lst [.lst (h0.map wD), .lst (h1.map wD)]), s4, some (false, .int many), some (false, .int least), some (false, .int most), some (false, .tup (ws.map wD)), s9, s10, s11, s12, some (false, .lst [.lst (m0.map row), .lst (m1.map row)]), some (false, .lst (due.map row)), s15, s16, none, s18, s19, s20, s21, s22, s23, s24, s25, s26]).lim n Q) : (r__law_right_10 gb gbo gm gp gso gt gw gwo gfw gmh gnl gto [s0, some (true, .lst [.int z0, .int z1]), s2, some (true, .lst [.lst (h0.map wD), .lst (h1.map wD)]), s4, some (false, .int many), some (false, .int least), some (false, .int most), some (false, .tup (ws.map wD)), s9, s10, s11, s12, some (false, .lst [.lst (m0.map row), .lst (m1.map row)]), some (false, .lst (due.map row)), s15, s16, none, s18, s19, s20, s21, s22, s23, s24, s25, s26]).lim n Q := by
  unfold r__law_right_10
  have h1 : eRep not (eDef gmh (hCons (eVar 5) (hCons (eVar 8) (hCons (eVar 6) (hCons (eVar 7) hNil))))) (eCall (hCons (eVar 14) hNil) (g1 tupleD)) [s0, some (true, .lst [.int z0, .int z1]), s2, some (true, .lst [.lst (h0.map wD), .lst (h1.map wD)]), s4, some (false, .int many), some (false, .int least), some (false, .int most), some (false, .tup (ws.map wD)), s9, s10, s11, s12, some (false, .lst [.lst (m0.map row), .lst (m1.map row)]), some (false, .lst (due.map row)), s15, s16, none, s18, s19, s20, s21, s22, s23, s24, s25, s26] = .ret (.val (.bl false), [s0, some (true, .lst [.int z0, .int z1]), s2, some (true, .lst [.lst (h0.map wD), .lst (h1.map wD)]), s4, some (false, .int many), some (false, .int least), some (false, .int most), some (false, .tup (ws.map wD)), s9, s10, s11, s12, some (false, .lst [.lst (m0.map row), .lst (m1.map row)]), some (false, .lst (due.map row)), s15, s16, none, s18, s19, s20, s21, s22, s23, s24, s25, s26]) := by
    refine eRep_same (d := .tup (due.map row)) (e1 := [s0, some (true, .lst [.int z0, .int z1]), s2, some (true, .lst [.lst (h0.map wD), .lst (h1.map wD)]), s4, some (false, .int many), some (false, .int least), some (false, .int most), some (false, .tup (ws.map wD)), s9, s10, s11, s12, some (false, .lst [.lst (m0.map row), .lst (m1.map row)]), some (false, .lst (due.map row)), s15, s16, none, s18, s19, s20, s21, s22, s23, s24, s25, s26]) (h2 := .val (.tup (due.map row))) ?_ ok ?_ rfl
    · simp -implicitDefEqProofs [q]
    · simp -implicitDefEqProofs
  rw [sSeq_e, sIf_e, mTest_e, h1]
  simp -implicitDefEqProofs
  exact hk

theorem r9 {s0 s2 s9 s10 s11 s12 s15 s16 s18 s19 s20 s21 s22 s23 s24 s25 s26 : Slot} {n : Nat} {Q : Fl × Ev → Prop} {z0 z1 many : Nat} {least most : Int} {ws h0 h1 : List Wash} {due m0 m1 : List (List Int)} {od : D} (q : gbo [od, .lst [.lst (m0.map row), .lst (m1.map row)], .int least, .int most] = .ret (.lst (due.map row))) (hk : (r__law_right_10 gb gbo gm gp gso gt gw gwo gfw gmh gnl gto [s0, some (true, .lst [.int z0, .int z1]), s2, some (true, .lst [.lst (h0.map wD), .lst (h1.map wD)]), some (false, od), some (false, .int many), some (false, .int least), some (false, .int most), some (false, .tup (ws.map wD)), s9, s10, s11, s12, some (false, .lst [.lst (m0.map row), .lst (m1.map row)]), some (false, .lst (due.map row)), s15, s16, none, s18, s19, s20, s21, s22, s23, s24, s25, s26]).lim n Q) : (r__law_right_9 gb gbo gm gp gso gt gw gwo gfw gmh gnl gto [s0, some (true, .lst [.int z0, .int z1]), s2, some (true, .lst [.lst (h0.map wD), .lst (h1.map wD)]), some (false, od), some (false, .int many), some (false, .int least), some (false, .int most), some (false, .tup (ws.map wD)), s9, s10, s11, s12, some (true, .lst [.lst (m0.map row), .lst (m1.map row)]), s14, s15, s16, none, s18, s19, s20, s21, s22, s23, s24, s25, s26]).lim n Q := by
  unfold r__law_right_9
  simp -implicitDefEqProofs [q, lf]
  exact hk

theorem r8 {s0 s2 s10 s11 s12 s13 s14 s15 s16 s18 s19 s20 s21 s22 s23 s24 s25 s26 : Slot} {n : Nat} {Q : Fl × Ev → Prop} {z0 z1 many : Nat} {least most : Int} {ws h0 h1 : List Wash} {due m0 m1 : List (List Int)} {x9 : Slot} {od : D} (q0 : gm [.int z0, .lst (h0.map wD)] = .ret (.lst (m0.map row))) (q1 : gm [.int z1, .lst (h1.map wD)] = .ret (.lst (m1.map row))) (hk : ∀ y9 : Slot, (r__law_right_9 gb gbo gm gp gso gt gw gwo gfw gmh gnl gto [s0, some (true, .lst [.int z0, .int z1]), s2, some (true, .lst [.lst (h0.map wD), .lst (h1.map wD)]), some (false, od), some (false, .int many), some (false, .int least), some (false, .int most), some (false, .tup (ws.map wD)), y9, s10, s11, s12, some (true, .lst [.lst (m0.map row), .lst (m1.map row)]), s14, s15, s16, none, s18, s19, s20, s21, s22, s23, s24, s25, s26]).lim n Q) : (r__law_right_8 gb gbo gm gp gso gt gw gwo gfw gmh gnl gto [s0, some (true, .lst [.int z0, .int z1]), s2, some (true, .lst [.lst (h0.map wD), .lst (h1.map wD)]), some (false, od), some (false, .int many), some (false, .int least), some (false, .int most), some (true, .lst (ws.map wD)), x9, s10, s11, s12, s13, s14, s15, s16, none, s18, s19, s20, s21, s22, s23, s24, s25, s26]).lim n Q := by
  unfold r__law_right_8
  have hc : ∀ u : Slot, (u = none ∨ ∃ d, u = some (false, d)) → (eComp [9] (iSeq (eTup (hCons (eC (.int 0)) (hCons (eC (.int 1)) hNil)))) (gNm 9) mYes (eDef gm (hCons (eOp gIx (eVar 1) (eVar 9)) (hCons (eOp gIx (eVar 3) (eVar 9)) hNil)))) [s0, some (true, .lst [.int z0, .int z1]), s2, some (true, .lst [.lst (h0.map wD), .lst (h1.map wD)]), some (false, od), some (false, .int many), some (false, .int least), some (false, .int most), some (true, .lst (ws.map wD)), u, s10, s11, s12, s13, s14, s15, s16, none, s18, s19, s20, s21, s22, s23, s24, s25, s26] = .ret (.tmp (.lst [.lst (m0.map row), .lst (m1.map row)]), [s0, some (true, .lst [.int z0, .int z1]), s2, some (true, .lst [.lst (h0.map wD), .lst (h1.map wD)]), some (false, od), some (false, .int many), some (false, .int least), some (false, .int most), some (true, .lst (ws.map wD)), u, s10, s11, s12, s13, s14, s15, s16, none, s18, s19, s20, s21, s22, s23, s24, s25, s26]) := by
    intro u hu
    rw [comp_each (env1 := [s0, some (true, .lst [.int z0, .int z1]), s2, some (true, .lst [.lst (h0.map wD), .lst (h1.map wD)]), some (false, od), some (false, .int many), some (false, .int least), some (false, .int most), some (true, .lst (ws.map wD)), u, s10, s11, s12, s13, s14, s15, s16, none, s18, s19, s20, s21, s22, s23, s24, s25, s26]) [0, 1] D.int (fun h => if h = 0 then .lst (m0.map row) else .lst (m1.map row))]
    · rcases hu with rfl | ⟨d, rfl⟩ <;> simp -implicitDefEqProofs [wipeE, backE]
    · simp -implicitDefEqProofs
    · rcases hu with rfl | ⟨d, rfl⟩ <;> simp [free1]
    · intro h m
      have hh : h = 0 ∨ h = 1 := by simpa using m
      rcases hh with rfl | rfl
      · simp -implicitDefEqProofs [wipeE, q0]
      · simp -implicitDefEqProofs [wipeE, q1]
  have hz : ∃ u : Slot, eFrz [9] (eComp [9] (iSeq (eTup (hCons (eC (.int 0)) (hCons (eC (.int 1)) hNil)))) (gNm 9) mYes (eDef gm (hCons (eOp gIx (eVar 1) (eVar 9)) (hCons (eOp gIx (eVar 3) (eVar 9)) hNil)))) [s0, some (true, .lst [.int z0, .int z1]), s2, some (true, .lst [.lst (h0.map wD), .lst (h1.map wD)]), some (false, od), some (false, .int many), some (false, .int least), some (false, .int most), some (true, .lst (ws.map wD)), x9, s10, s11, s12, s13, s14, s15, s16, none, s18, s19, s20, s21, s22, s23, s24, s25, s26] = .ret (.tmp (.lst [.lst (m0.map row), .lst (m1.map row)]), [s0, some (true, .lst [.int z0, .int z1]), s2, some (true, .lst [.lst (h0.map wD), .lst (h1.map wD)]), some (false, od), some (false, .int many), some (false, .int least), some (false, .int most), some (true, .lst (ws.map wD)), u, s10, s11, s12, s13, s14, s15, s16, none, s18, s19, s20, s21, s22, s23, s24, s25, s26]) := by
    rcases x9 with _ | ⟨q, d⟩
    · exact ⟨none, by rw [eFrz_e]; exact hc none (.inl rfl)⟩
    · refine ⟨some (false, d), ?_⟩
      rw [eFrz_e]
      cases q <;> exact hc (some (false, d)) (.inr ⟨d, rfl⟩)
  obtain ⟨u, hz⟩ := hz
  rw [sSeq_e, sPar_e]
  simp -implicitDefEqProofs only [hCons_e, eCall_e]
  simp -implicitDefEqProofs [-eFrz_e]
  rw [hz]
  simp -implicitDefEqProofs [unslot, puts]
  exact hk u

def washAt (h0 h1 : List Wash) (z : Int × Int) : Wash := (if z.1 = 0 then h0 else h1).getD z.2.toNat ([], false)
def zOk (h0 h1 : List Wash) (z : Int × Int) : Prop := (z.1 = 0 ∧ 0 ≤ z.2 ∧ z.2 < h0.length) ∨ (z.1 = 1 ∧ 0 ≤ z.2 ∧ z.2 < h1.length)

theorem f1 {s0 s2 s11 s12 s13 s14 s15 s16 s18 s19 s20 s21 s22 s23 s24 s25 s26 : Slot} {z0 z1 many : Nat} {least most : Int} {od : D} {pos : Int → Int → Int} {ws h0 h1 : List Wash} {z : Int × Int} (hz : zOk h0 h1 z) (hw : ws.length ≤ 1000) (hp : gp [od, .int z.1, row (washAt h0 h1 z).1] = .ret (row (put pos z.1 (washAt h0 h1 z).1))) : f__law_right_1 gb gbo gm gp gso gt gw gwo gfw gmh gnl gto [s0, some (true, .lst [.int z0, .int z1]), s2, some (true, .lst [.lst (h0.map wD), .lst (h1.map wD)]), some (false, od), some (false, .int many), some (false, .int least), some (false, .int most), some (true, .lst (ws.map wD)), some (false, .int z.1), some (false, .int z.2), s11, s12, s13, s14, s15, s16, none, s18, s19, s20, s21, s22, s23, s24, s25, s26] = .ret (.nx, [s0, some (true, .lst [.int z0, .int z1]), s2, some (true, .lst [.lst (h0.map wD), .lst (h1.map wD)]), some (false, od), some (false, .int many), some (false, .int least), some (false, .int most), some (true, .lst ((ws ++ [putW pos z.1 (washAt h0 h1 z)]).map wD)), some (false, .int z.1), some (false, .int z.2), some (false, row (washAt h0 h1 z).1), some (false, .bl (washAt h0 h1 z).2), s13, s14, s15, s16, none, s18, s19, s20, s21, s22, s23, s24, s25, s26]) := by
  unfold f__law_right_1
  obtain ⟨h, i⟩ := z
  have hw' : (ws.map wD).length < 16777216 := by simp; omega
  rcases hz with ⟨e, a, b⟩ | ⟨e, a, b⟩
  · dsimp only at e a b hp
    subst e
    obtain ⟨k, rfl⟩ : ∃ k : Nat, i = k := ⟨i.toNat, by omega⟩
    have hk : k < h0.length := by omega
    have hx : gIx (.lst (h0.map wD)) (.int k) = some (.val (.tup [row h0[k].1, .bl h0[k].2])) := by
      rw [gIx_nat (by simpa using hk)]; simp [wD]
    have hat : washAt h0 h1 (0, (k : Int)) = h0[k] := by simp [washAt, hk]
    rw [hat] at hp ⊢
    simp -implicitDefEqProofs [hx, hp, append_e hw', putW, wD]
  · dsimp only at e a b hp
    subst e
    obtain ⟨k, rfl⟩ : ∃ k : Nat, i = k := ⟨i.toNat, by omega⟩
    have hk : k < h1.length := by omega
    have hx : gIx (.lst (h1.map wD)) (.int k) = some (.val (.tup [row h1[k].1, .bl h1[k].2])) := by
      rw [gIx_nat (by simpa using hk)]; simp [wD]
    have hat : washAt h0 h1 (1, (k : Int)) = h1[k] := by simp [washAt, hk]
    rw [hat] at hp ⊢
    simp -implicitDefEqProofs [hx, hp, append_e hw', putW, wD]

def mixed (pos : Int → Int → Int) (h0 h1 : List Wash) (zs : List (Int × Int)) : List Wash := zs.map fun z => putW pos z.1 (washAt h0 h1 z)

theorem loop7 {s0 s2 s9 s10 s11 s12 s13 s14 s15 s16 s18 s19 s20 s21 s22 s23 s24 s25 s26 : Slot} {z0 z1 many : Nat} {least most : Int} {od : D} {pos : Int → Int → Int} {h0 h1 : List Wash} (zs : List (Int × Int)) (hz : ∀ z ∈ zs, zOk h0 h1 z) (hl : zs.length ≤ 1000) (hp : ∀ z ∈ zs, gp [od, .int z.1, row (washAt h0 h1 z).1] = .ret (row (put pos z.1 (washAt h0 h1 z).1))) : ∃ x9 x10 x11 x12 : Slot, forL (gTp 2 (gsCons (gNm 9) (gsCons (gNm 10) gsNil))) (f__law_right_1 gb gbo gm gp gso gt gw gwo gfw gmh gnl gto) (zs.map oD) [s0, some (true, .lst [.int z0, .int z1]), s2, some (true, .lst [.lst (h0.map wD), .lst (h1.map wD)]), some (false, od), some (false, .int many), some (false, .int least), some (false, .int most), some (true, .lst []), s9, s10, s11, s12, s13, s14, s15, s16, none, s18, s19, s20, s21, s22, s23, s24, s25, s26] = .ret (.nx, [s0, some (true, .lst [.int z0, .int z1]), s2, some (true, .lst [.lst (h0.map wD), .lst (h1.map wD)]), some (false, od), some (false, .int many), some (false, .int least), some (false, .int most), some (true, .lst ((mixed pos h0 h1 zs).map wD)), x9, x10, x11, x12, s13, s14, s15, s16, none, s18, s19, s20, s21, s22, s23, s24, s25, s26]) := by
  refine ⟨_, _, _, _, forL_of (f := oD) (fun pre => [s0, some (true, .lst [.int z0, .int z1]), s2, some (true, .lst [.lst (h0.map wD), .lst (h1.map wD)]), some (false, od), some (false, .int many), some (false, .int least), some (false, .int most), some (true, .lst ((mixed pos h0 h1 pre).map wD)), (lastS (fun z : Int × Int => (false, D.int z.1)) pre).or s9, (lastS (fun z : Int × Int => (false, D.int z.2)) pre).or s10, (lastS (fun z : Int × Int => (false, row (washAt h0 h1 z).1)) pre).or s11, (lastS (fun z : Int × Int => (false, D.bl (washAt h0 h1 z).2)) pre).or s12, s13, s14, s15, s16, none, s18, s19, s20, s21, s22, s23, s24, s25, s26]) (items := zs) (by simp [mixed]) fun p z q hq => ⟨_, by simp [oD]; rfl, ?_⟩⟩
  have hm : z ∈ zs := by rw [hq]; simp
  have hlt := pre_lt hq
  rw [f1 (hz z hm) (by simp [mixed]; omega) (hp z hm)]
  simp [mixed]

theorem r7 {s0 s2 s9 s10 s11 s12 s13 s14 s15 s16 s18 s19 s20 s21 s22 s23 s24 s25 s26 : Slot} {n nb : Nat} {Q : Fl × Ev → Prop} {z0 z1 many : Nat} {least most : Int} {od : D} {pos : Int → Int → Int} {h0 h1 : List Wash} (hb : (gb [.pot, .int (h0.length : Int), .int (h1.length : Int)]).lim nb fun d => ∃ zs : List (Int × Int), d = .lst (zs.map oD) ∧ zs.Perm (base 0 h0.length ++ base 1 h1.length)) (hn : h0.length + h1.length ≤ 100) (hs0 : s0 = some (false, .pot)) (hp : ∀ z, zOk h0 h1 z → gp [od, .int z.1, row (washAt h0 h1 z).1] = .ret (row (put pos z.1 (washAt h0 h1 z).1))) (hk : ∀ (zs : List (Int × Int)) (x9 x10 x11 x12 : Slot), zs.Perm (base 0 h0.length ++ base 1 h1.length) → (r__law_right_8 gb gbo gm gp gso gt gw gwo gfw gmh gnl gto [s0, some (true, .lst [.int z0, .int z1]), s2, some (true, .lst [.lst (h0.map wD), .lst (h1.map wD)]), some (false, od), some (false, .int many), some (false, .int least), some (false, .int most), some (true, .lst ((mixed pos h0 h1 zs).map wD)), x9, x10, x11, x12, s13, s14, s15, s16, none, s18, s19, s20, s21, s22, s23, s24, s25, s26]).lim n Q) : (r__law_right_7 gb gbo gm gp gso gt gw gwo gfw gmh gnl gto [s0, some (true, .lst [.int z0, .int z1]), s2, some (true, .lst [.lst (h0.map wD), .lst (h1.map wD)]), some (false, od), some (false, .int many), some (false, .int least), some (false, .int most), some (true, .lst []), s9, s10, s11, s12, s13, s14, s15, s16, none, s18, s19, s20, s21, s22, s23, s24, s25, s26]).lim (nb + n) Q := by
  subst hs0
  unfold r__law_right_7
  rw [sSeq_e, sFor_e, T.bind_bind]
  simp -implicitDefEqProofs
  simp only [T.bind_bind]
  refine T.lim_then hb (Nat.le_add_right _ _) fun d hd => ?_
  obtain ⟨zs, rfl, hz⟩ := hd
  have hok : ∀ z ∈ zs, zOk h0 h1 z := fun z m => by
    rcases List.mem_append.mp (hz.mem_iff.mp m) with m | m
    · obtain ⟨i, mi, rfl⟩ := List.mem_map.mp m
      have := List.mem_range.mp mi
      exact .inl ⟨rfl, by simp, by simpa using this⟩
    · obtain ⟨i, mi, rfl⟩ := List.mem_map.mp m
      have := List.mem_range.mp mi
      exact .inr ⟨rfl, by simp, by simpa using this⟩
  have hlen : zs.length ≤ 1000 := by
    rw [hz.length_eq]; simp [base]; omega
  obtain ⟨x9, x10, x11, x12, e⟩ := loop7 (gb := gb) (gbo := gbo) (gm := gm) (gp := gp) (gso := gso) (gt := gt) (gw := gw) (gwo := gwo) (gfw := gfw) (gmh := gmh) (gnl := gnl) (gto := gto) (s0 := some (false, .pot)) (s2 := s2) (s9 := s9) (s10 := s10) (s11 := s11) (s12 := s12) (s13 := s13) (s14 := s14) (s15 := s15) (s16 := s16) (s18 := s18) (s19 := s19) (s20 := s20) (s21 := s21) (s22 := s22) (s23 := s23) (s24 := s24) (s25 := s25) (s26 := s26) (od := od) (pos := pos) (z0 := z0) (z1 := z1) (many := many) (least := least) (most := most) zs hok hlen (fun z m => hp z (hok z m))
  simp -implicitDefEqProofs
  rw [e]
  simp -implicitDefEqProofs
  exact hk zs x9 x10 x11 x12 hz

theorem r6 {s2 s8 s9 s10 s11 s12 s13 s14 s15 s16 s17 s18 s19 s20 s21 s22 s23 s24 s25 s26 : Slot} {n z0 z1 many : Nat} {Q : Fl × Ev → Prop} {least most : Int} {od : D} {h0 h1 : List Wash} (hk : (r__law_right_7 gb gbo gm gp gso takeG gw gwo gfw gmh gnl gto [some (false, .pot), some (true, .lst [.int z0, .int z1]), s2, some (true, .lst [.lst (h0.map wD), .lst (h1.map wD)]), some (false, od), some (false, .int many), some (false, .int least), some (false, .int most), some (true, .lst []), s9, s10, s11, s12, s13, s14, s15, s16, s17, s18, s19, s20, s21, s22, s23, s24, s25, s26]).lim n Q) : (r__law_right_6 gb gbo gm gp gso takeG gw gwo gfw gmh gnl gto [some (false, .pot), some (true, .lst [.int z0, .int z1]), s2, some (true, .lst [.lst (h0.map wD), .lst (h1.map wD)]), some (false, od), some (false, .int many), some (false, .int least), some (false, .int most), s8, s9, s10, s11, s12, s13, s14, s15, s16, s17, s18, s19, s20, s21, s22, s23, s24, s25, s26]).lim n Q := by
  unfold r__law_right_6
  simp -implicitDefEqProofs
  exact hk

theorem r5 {s2 s7 s8 s9 s10 s11 s12 s13 s14 s15 s16 s17 s18 s19 s20 s21 s22 s23 s24 s25 s26 : Slot} {n z0 z1 many : Nat} {Q : Fl × Ev → Prop} {least : Int} {od : D} {h0 h1 : List Wash} (hl : 0 ≤ least) (hl2 : least ≤ min 3 (many : Int)) (hk : ∀ most : Int, least ≤ most → most ≤ min 3 (many : Int) → (r__law_right_6 gb gbo gm gp gso takeG gw gwo gfw gmh gnl gto [some (false, .pot), some (true, .lst [.int z0, .int z1]), s2, some (true, .lst [.lst (h0.map wD), .lst (h1.map wD)]), some (false, od), some (false, .int many), some (false, .int least), some (false, .int most), s8, s9, s10, s11, s12, s13, s14, s15, s16, s17, s18, s19, s20, s21, s22, s23, s24, s25, s26]).lim n Q) : (r__law_right_5 gb gbo gm gp gso takeG gw gwo gfw gmh gnl gto [some (false, .pot), some (true, .lst [.int z0, .int z1]), s2, some (true, .lst [.lst (h0.map wD), .lst (h1.map wD)]), some (false, od), some (false, .int many), some (false, .int least), s7, s8, s9, s10, s11, s12, s13, s14, s15, s16, s17, s18, s19, s20, s21, s22, s23, s24, s25, s26]).lim (1 + n) Q := by
  unfold r__law_right_5
  have ht := take_e (k := min 3 (many : Int) - least + 1) (by omega) (by omega)
  simp -implicitDefEqProofs [ht]
  refine T.lim_draw (by omega) fun d hd => ?_
  simp -implicitDefEqProofs [lf]
  exact hk _ (by omega) (by omega)

theorem r4 {s2 s6 s7 s8 s9 s10 s11 s12 s13 s14 s15 s16 s17 s18 s19 s20 s21 s22 s23 s24 s25 s26 : Slot} {n z0 z1 many : Nat} {Q : Fl × Ev → Prop} {od : D} {h0 h1 : List Wash} (hk : ∀ least : Int, 0 ≤ least → least ≤ min 3 (many : Int) → (r__law_right_5 gb gbo gm gp gso takeG gw gwo gfw gmh gnl gto [some (false, .pot), some (true, .lst [.int z0, .int z1]), s2, some (true, .lst [.lst (h0.map wD), .lst (h1.map wD)]), some (false, od), some (false, .int many), some (false, .int least), s7, s8, s9, s10, s11, s12, s13, s14, s15, s16, s17, s18, s19, s20, s21, s22, s23, s24, s25, s26]).lim n Q) : (r__law_right_4 gb gbo gm gp gso takeG gw gwo gfw gmh gnl gto [some (false, .pot), some (true, .lst [.int z0, .int z1]), s2, some (true, .lst [.lst (h0.map wD), .lst (h1.map wD)]), some (false, od), some (false, .int many), s6, s7, s8, s9, s10, s11, s12, s13, s14, s15, s16, s17, s18, s19, s20, s21, s22, s23, s24, s25, s26]).lim (1 + n) Q := by
  unfold r__law_right_4
  have ht := take_e (k := min 3 (many : Int) + 1) (by omega) (by omega)
  simp -implicitDefEqProofs [ht]
  refine T.lim_draw (by omega) fun d hd => ?_
  simp -implicitDefEqProofs [lf]
  exact hk _ (by omega) (by omega)

theorem r3 {s2 s4 s5 s6 s7 s8 s9 s10 s11 s12 s13 s14 s15 s16 s17 s18 s19 s20 s21 s22 s23 s24 s25 s26 : Slot} {n nb z0 z1 : Nat} {Q : Fl × Ev → Prop} {h0 h1 : List Wash} (hb : (gb [.pot, .int (z0 : Int), .int (z1 : Int)]).lim nb fun d => ∃ zs : List (Int × Int), d = .lst (zs.map oD) ∧ zs.Perm (base 0 z0 ++ base 1 z1)) (hk : ∀ zs : List (Int × Int), zs.Perm (base 0 z0 ++ base 1 z1) → (r__law_right_4 gb gbo gm gp gso takeG gw gwo gfw gmh gnl gto [some (false, .pot), some (true, .lst [.int z0, .int z1]), s2, some (true, .lst [.lst (h0.map wD), .lst (h1.map wD)]), some (false, .lst (zs.map oD)), some (false, .int ((z0 + z1 : Nat) : Int)), s6, s7, s8, s9, s10, s11, s12, s13, s14, s15, s16, s17, s18, s19, s20, s21, s22, s23, s24, s25, s26]).lim n Q) : (r__law_right_3 gb gbo gm gp gso takeG gw gwo gfw gmh gnl gto [some (false, .pot), some (true, .lst [.int z0, .int z1]), s2, some (true, .lst [.lst (h0.map wD), .lst (h1.map wD)]), s4, s5, s6, s7, s8, s9, s10, s11, s12, s13, s14, s15, s16, s17, s18, s19, s20, s21, s22, s23, s24, s25, s26]).lim (nb + n) Q := by
  unfold r__law_right_3
  simp -implicitDefEqProofs
  simp only [T.bind_bind]
  refine T.lim_then hb (Nat.le_add_right _ _) fun d hd => ?_
  obtain ⟨zs, rfl, hz⟩ := hd
  simp -implicitDefEqProofs [unslot, puts]
  have := hk zs hz
  push_cast at this
  exact this

theorem r2 {s4 s5 s6 s7 s8 s9 s10 s11 s12 s13 s14 s15 s16 s17 s18 s19 s20 s21 s22 s23 s24 s25 s26 : Slot} {s3 : Slot} {n z0 z1 : Nat} {b : Bool} {Q : Fl × Ev → Prop} (hw : ∀ (z : Nat) (b : Bool), 1 ≤ z → z ≤ 6 → (gw [.pot, .int z, .bl b]).lim 60 fun d => ∃ ws : List Wash, d = .lst (ws.map wD) ∧ HallOk z ws) (hz0 : 1 ≤ z0 ∧ z0 ≤ 6) (hz1 : 1 ≤ z1 ∧ z1 ≤ 6) (hk : ∀ h0 h1 : List Wash, HallOk z0 h0 → HallOk z1 h1 → (r__law_right_3 gb gbo gm gp gso takeG gw gwo gfw gmh gnl gto [some (false, .pot), some (true, .lst [.int z0, .int z1]), some (false, .bl b), some (true, .lst [.lst (h0.map wD), .lst (h1.map wD)]), s4, s5, s6, s7, s8, s9, s10, s11, s12, s13, s14, s15, s16, s17, s18, s19, s20, s21, s22, s23, s24, s25, s26]).lim n Q) : (r__law_right_2 gb gbo gm gp gso takeG gw gwo gfw gmh gnl gto [some (false, .pot), some (true, .lst [.int z0, .int z1]), some (false, .bl b), s3, s4, s5, s6, s7, s8, s9, s10, s11, s12, s13, s14, s15, s16, s17, s18, s19, s20, s21, s22, s23, s24, s25, s26]).lim (120 + n) Q := by
  unfold r__law_right_2
  simp -implicitDefEqProofs
  simp only [T.bind_bind]
  refine T.lim_then (hw z0 b hz0.1 hz0.2) (by omega) fun d hd => ?_
  obtain ⟨h0, rfl, k0⟩ := hd
  simp -implicitDefEqProofs
  simp only [T.bind_bind]
  refine T.lim_then (hw z1 false hz1.1 hz1.2) (by omega) fun d hd => ?_
  obtain ⟨h1, rfl, k1⟩ := hd
  simp -implicitDefEqProofs
  rw [show 120 + n - 60 - 60 = n by omega]
  exact hk h0 h1 k0 k1

theorem r1 {s3 s4 s5 s6 s7 s8 s9 s10 s11 s12 s13 s14 s15 s16 s17 s18 s19 s20 s21 s22 s23 s24 s25 s26 : Slot} {x2 : Slot} {n z0 z1 : Nat} {Q : Fl × Ev → Prop} (hk : ∀ b : Bool, (r__law_right_2 gb gbo gm gp gso takeG gw gwo gfw gmh gnl gto [some (false, .pot), some (true, .lst [.int z0, .int z1]), some (false, .bl b), s3, s4, s5, s6, s7, s8, s9, s10, s11, s12, s13, s14, s15, s16, s17, s18, s19, s20, s21, s22, s23, s24, s25, s26]).lim n Q) : (r__law_right_1 gb gbo gm gp gso takeG gw gwo gfw gmh gnl gto [some (false, .pot), some (true, .lst [.int z0, .int z1]), x2, s3, s4, s5, s6, s7, s8, s9, s10, s11, s12, s13, s14, s15, s16, s17, s18, s19, s20, s21, s22, s23, s24, s25, s26]).lim (1 + n) Q := by
  unfold r__law_right_1
  have ht := take_e (k := 4) (by omega) (by omega)
  simp -implicitDefEqProofs [ht]
  refine T.lim_draw (by omega) fun d hd => ?_
  simp -implicitDefEqProofs [lf]
  exact hk _

theorem r0 {s2 s3 s4 s5 s6 s7 s8 s9 s10 s11 s12 s13 s14 s15 s16 s17 s18 s19 s20 s21 s22 s23 s24 s25 s26 : Slot} {x1 : Slot} {n : Nat} {Q : Fl × Ev → Prop} (hk : ∀ z0 z1 : Nat, 1 ≤ z0 ∧ z0 ≤ 6 → 1 ≤ z1 ∧ z1 ≤ 6 → (r__law_right_1 gb gbo gm gp gso takeG gw gwo gfw gmh gnl gto [some (false, .pot), some (true, .lst [.int z0, .int z1]), s2, s3, s4, s5, s6, s7, s8, s9, s10, s11, s12, s13, s14, s15, s16, s17, s18, s19, s20, s21, s22, s23, s24, s25, s26]).lim n Q) : (b__law_right gb gbo gm gp gso takeG gw gwo gfw gmh gnl gto [some (false, .pot), x1, s2, s3, s4, s5, s6, s7, s8, s9, s10, s11, s12, s13, s14, s15, s16, s17, s18, s19, s20, s21, s22, s23, s24, s25, s26]).lim (2 + n) Q := by
  unfold b__law_right
  have ht := take_e (k := 6) (by omega) (by omega)
  simp -implicitDefEqProofs [ht]
  refine T.lim_draw (by omega) fun d hd => ?_
  have hd' : d < 6 := hd
  simp -implicitDefEqProofs [lf, ht]
  refine T.lim_draw (by omega) fun e he => ?_
  have he' : e < 6 := he
  simp -implicitDefEqProofs [lf]
  have := hk (1 + d) (1 + e) (by omega) (by omega)
  push_cast at this
  exact this

end
end Mi.K17
set_option Elab.async false
set_option linter.all false
set_option maxRecDepth 100000
set_option maxHeartbeats 1000000
namespace Mi.K17
open PySem PySem.Spec PyProof.Rows L2 Mi

def szO (z0 z1 : Nat) (h : Int) : Nat := if h = 0 then z0 else z1
theorem mem_base {h k i : Int} {n : Nat} : (k, i) ∈ base h n ↔ k = h ∧ 0 ≤ i ∧ i < n := by
  unfold base
  rw [List.mem_map]
  constructor
  · rintro ⟨j, m, e⟩
    have := List.mem_range.mp m
    simp only [Prod.mk.injEq] at e
    omega
  · rintro ⟨rfl, a, b⟩
    exact ⟨i.toNat, List.mem_range.mpr (by omega), by show ((k, ((i.toNat : Nat) : Int)) : Int × Int) = (k, i); rw [Int.toNat_of_nonneg a]⟩
theorem nodup_base (h : Int) (n : Nat) : (base h n).Nodup :=
  List.pairwise_map.mpr (List.pairwise_lt_range.imp fun {a b} hab e => by simp only [Prod.mk.injEq] at e; omega)
section
variable {z0 z1 : Nat} {zs : List (Int × Int)} (hz : zs.Perm (base 0 z0 ++ base 1 z1))
include hz
theorem order_nodup : zs.Nodup := by
  rw [hz.nodup_iff, List.nodup_append]
  refine ⟨nodup_base _ _, nodup_base _ _, ?_⟩
  rintro ⟨a, i⟩ ha ⟨b, j⟩ hb e
  have h1 := (mem_base.mp ha).1
  have h2 := (mem_base.mp hb).1
  simp only [Prod.mk.injEq] at e
  omega
theorem order_mem {h i : Int} : (h, i) ∈ zs ↔ (h = 0 ∨ h = 1) ∧ 0 ≤ i ∧ i < szO z0 z1 h := by
  rw [hz.mem_iff, List.mem_append, mem_base, mem_base]
  unfold szO
  constructor
  · rintro (⟨rfl, a, b⟩ | ⟨rfl, a, b⟩)
    · exact ⟨.inl rfl, a, by simpa using b⟩
    · exact ⟨.inr rfl, a, by simpa using b⟩
  · rintro ⟨rfl | rfl, a, b⟩
    · exact .inl ⟨rfl, a, by simpa using b⟩
    · exact .inr ⟨rfl, a, by simpa using b⟩
theorem order_len : zs.length = z0 + z1 := by rw [hz.length_eq]; simp [base]
theorem pos_ok : Pos (posO zs) (szO z0 z1) (z0 + z1) := by
  have nd := order_nodup hz
  have ln := order_len hz
  refine ⟨fun h i hh a b => ?_, fun h i h' i' hh a b hh' a' b' e => ?_, fun x a b => ?_⟩
  · have := List.idxOf_lt_length_of_mem ((order_mem hz).mpr ⟨hh, a, b⟩)
    unfold posO
    omega
  · have h1 := List.idxOf_lt_length_of_mem ((order_mem hz).mpr ⟨hh, a, b⟩)
    have h2 := List.idxOf_lt_length_of_mem ((order_mem hz).mpr ⟨hh', a', b'⟩)
    have e' : zs.idxOf (h, i) = zs.idxOf (h', i') := by unfold posO at e; omega
    have g1 := List.getElem_idxOf h1
    have g2 := List.getElem_idxOf h2
    have : (h, i) = (h', i') := by rw [← g1, ← g2]; simp only [e']
    simpa using this
  · have hx : x.toNat < zs.length := by omega
    have := nd.idxOf_getElem x.toNat hx
    have hm := List.getElem_mem hx
    generalize zs[x.toNat] = z at this hm
    obtain ⟨h, i⟩ := z
    obtain ⟨c, d, e⟩ := (order_mem hz).mp hm
    exact ⟨h, i, c, d, e, by unfold posO; omega⟩
end
end Mi.K17
set_option Elab.async false
set_option linter.all false
set_option maxRecDepth 100000
set_option maxHeartbeats 1000000
namespace Mi.K17
open PySem PySem.Spec PyProof.Rows L2 Mi

theorem rising_of : ∀ {l : List Int}, l.Pairwise (· < ·) → risingB l = true
  | [], _ => rfl
  | [x], _ => rfl
  | x :: y :: l, h => by
    have h2 := rising_of (l := y :: l) (List.pairwise_cons.mp h).2
    have h1 : x < y := (List.pairwise_cons.mp h).1 y (by simp)
    unfold risingB at *
    simp only [List.tail_cons, List.zip_cons_cons, List.all_cons, Bool.and_eq_true, decide_eq_true_eq]
    exact ⟨h1, h2⟩
theorem load_of {n : Nat} {l : List Int} (h : Sub n l) (h1 : 1 ≤ l.length) : LoadOk n l :=
  ⟨by omega, by have := sub_len h; omega, h.1.2, h.2, rising_of h.1.1⟩
theorem base_map (h0 h1 : List Wash) (pos : Int → Int → Int) : (base 0 h0.length).map (fun z => putW pos z.1 (washAt h0 h1 z)) = h0.map (putW pos 0) ∧ (base 1 h1.length).map (fun z => putW pos z.1 (washAt h0 h1 z)) = h1.map (putW pos 1) := by
  constructor
  · unfold base
    rw [List.map_map]
    refine List.ext_getElem (by simp) fun i a b => ?_
    have hi : i < h0.length := by simpa using a
    simp [washAt, hi]
  · unfold base
    rw [List.map_map]
    refine List.ext_getElem (by simp) fun i a b => ?_
    have hi : i < h1.length := by simpa using a
    simp [washAt, hi]
theorem mixed_perm {h0 h1 : List Wash} {pos : Int → Int → Int} {zs : List (Int × Int)} (hz : zs.Perm (base 0 h0.length ++ base 1 h1.length)) : (mixed pos h0 h1 zs).Perm (h0.map (putW pos 0) ++ h1.map (putW pos 1)) := by
  have := hz.map fun z => putW pos z.1 (washAt h0 h1 z)
  rw [List.map_append, (base_map h0 h1 pos).1, (base_map h0 h1 pos).2] at this
  exact this
theorem hall_case {n : Nat} {ws : List Wash} (h1 : 1 ≤ n) (h6 : n ≤ 6) (h : HallOk n ws) : CaseOk n ws 0 (min 3 n) :=
  ⟨by omega, by omega, by have := h.1; omega, fun w m => load_of (h.2 w m).1 (h.2 w m).2, by omega, by omega, by omega, by omega⟩
theorem left_snoc {n : Nat} {ws : List Wash} {w : Wash} {least most : Int} : leftOf n (ws ++ [w]) least most = (leftOf n ws least most).filter fun s => fitB s w := by
  unfold leftOf
  rw [List.filter_filter]
  refine List.filter_congr fun s _ => ?_
  simp [Bool.and_comm]
end Mi.K17
set_option Elab.async false
set_option linter.all false
set_option maxRecDepth 100000
set_option maxHeartbeats 1000000
namespace Mi.K17
open PySem PySem.Spec PyProof.Rows L2 Mi

/-- the values that the last statements use, of two halls told among one another -/
structure Two (z0 z1 : Nat) (h0 h1 : List Wash) (order : List (Int × Int)) (zs : List (Int × Int)) (least most : Int) : Prop where
  a0 : 1 ≤ z0 ∧ z0 ≤ 6
  a1 : 1 ≤ z1 ∧ z1 ≤ 6
  k0 : HallOk z0 h0
  k1 : HallOk z1 h1
  ho : order.Perm (base 0 z0 ++ base 1 z1)
  hz : zs.Perm (base 0 h0.length ++ base 1 h1.length)
  l0 : 0 ≤ least
  lm : least ≤ most
  m3 : most ≤ min 3 ((z0 + z1 : Nat) : Int)
section
variable {z0 z1 : Nat} {h0 h1 : List Wash} {order zs : List (Int × Int)} {least most : Int} (w : Two z0 z1 h0 h1 order zs least most)
include w
theorem w_pos : Pos (posO order) (szO z0 z1) (z0 + z1) := pos_ok w.ho
theorem w_len : (mixed (posO order) h0 h1 zs).length ≤ 12 := by
  have := w.hz.length_eq
  have e0 := w.k0.1
  have e1 := w.k1.1
  simp only [mixed, List.length_map, this, List.length_append, base, List.length_range]
  omega
theorem w_mem {v : Wash} (m : v ∈ mixed (posO order) h0 h1 zs) : Sub (z0 + z1) v.1 ∧ 1 ≤ v.1.length := by
  rcases List.mem_append.mp ((mixed_perm (pos := posO order) w.hz).mem_iff.mp m) with m | m
  · obtain ⟨u, mu, rfl⟩ := List.mem_map.mp m
    exact ⟨put_sub (w_pos w) (h := 0) (.inl rfl) (w.k0.2 u mu).1, by show 1 ≤ (put _ _ _).length; rw [put_len (w_pos w)]; exact (w.k0.2 u mu).2⟩
  · obtain ⟨u, mu, rfl⟩ := List.mem_map.mp m
    exact ⟨put_sub (w_pos w) (h := 1) (.inr rfl) (w.k1.2 u mu).1, by show 1 ≤ (put _ _ _).length; rw [put_len (w_pos w)]; exact (w.k1.2 u mu).2⟩
theorem w_case : CaseOk ((z0 + z1 : Nat) : Int) (mixed (posO order) h0 h1 zs) least most := by
  have a0 := w.a0
  have a1 := w.a1
  have m3 := w.m3
  exact ⟨by omega, by omega, by have := w_len w; omega, fun v m => load_of (w_mem w m).1 (w_mem w m).2, w.l0, w.lm, by omega, by omega⟩
theorem w_case2 {v : Wash} (hv : Sub (z0 + z1) v.1 ∧ 1 ≤ v.1.length) : CaseOk ((z0 + z1 : Nat) : Int) (mixed (posO order) h0 h1 zs ++ [v]) least most := by
  have c := w_case w
  refine ⟨c.m1, c.m2, by have := w_len w; simp; omega, fun u m => ?_, c.l0, c.lm, c.m3, c.mm⟩
  rcases List.mem_append.mp m with m | m
  · exact c.ok u m
  · simp at m; subst m; exact load_of hv.1 hv.2
theorem w_due : leftOf (z0 + z1) (mixed (posO order) h0 h1 zs) least most = srt (pairs (posO order) (leftOf z0 h0 0 (min 3 z0)) (leftOf z1 h1 0 (min 3 z1)) least most) := by
  have m3 := w.m3
  exact due_eq (w_pos w) (h0 := h0) (h1 := h1) (fun u m => (w.k0.2 u m).1) (fun u m => (w.k1.2 u m).1) (mixed_perm w.hz) w.l0 w.lm (by omega)
end
theorem left_rows {n : Nat} {ws : List Wash} {least most : Int} (hn : n ≤ 12) : (leftOf n ws least most).length ≤ 4096 ∧ ∀ s ∈ leftOf n ws least most, s.length ≤ 12 ∧ ∀ x ∈ s, 0 ≤ x ∧ x < 1000 := by
  constructor
  · have e1 : (leftOf n ws least most).length ≤ (found n most).length := by
      unfold leftOf setsOf
      refine Nat.le_trans (List.length_filter_le _ _) ?_
      rw [srt_len]
      exact List.length_filter_le _ _
    have e2 := (found_len most (List.range n) [[]] 0 (by simp) (by simp)).1
    have e3 : 2 ^ (0 + (List.range n).length) ≤ 2 ^ 12 := Nat.pow_le_pow_right (by omega) (by simp; omega)
    have e4 : (found n most).length ≤ 2 ^ 12 := Nat.le_trans e2 e3
    omega
  · intro s m
    have hs := (mem_leftOf.mp m).1.1
    exact ⟨Nat.le_trans (sub_len hs) hn, fun x mx => ⟨hs.1.2 x mx, by have := hs.2 x mx; omega⟩⟩
theorem left_rep {n : Nat} {ws : List Wash} {least most : Int} (hn : n ≤ 12) : repOk (.tup ((leftOf n ws least most).map row)) = true :=
  rep_rows (by have := (left_rows (ws := ws) (least := least) (most := most) hn).1; omega) (left_rows hn).2
end Mi.K17
set_option Elab.async false
set_option linter.all false
set_option maxRecDepth 100000
set_option maxHeartbeats 2000000
namespace Mi.K17
open PySem PySem.Spec PyProof.Rows L2 Mi

/-! ### repr of words -/
theorem rep_each {B C : Nat} : ∀ (l : List D), (∀ d ∈ l, okSh d = true ∧ shC d ≤ B ∧ dpD d ≤ C) → okShs l = true ∧ shCs l ≤ (B + 2) * l.length ∧ dpDs l ≤ C
  | [], _ => ⟨rfl, Nat.le_refl 0, Nat.zero_le _⟩
  | d :: l, h => by
    obtain ⟨a, b, c⟩ := rep_each l fun t m => h t (by simp [m])
    obtain ⟨a1, b1, c1⟩ := h d (by simp)
    refine ⟨?_, ?_, ?_⟩
    · simp only [okShs, a, a1, Bool.and_true]
    · simp only [shCs, List.length_cons, Nat.mul_succ]; omega
    · simp only [dpDs]; exact Nat.max_le.mpr ⟨c1, c⟩
theorem words_rep {many : Nat} {ss : List (List Int)} (h : many ≤ 12) : repOk (.tup (wordsOf many ss)) = true := by
  have h1 := rep_each (B := 60) (C := 0) (wordsOf many ss) fun d m => by
    obtain ⟨i, _, rfl⟩ := List.mem_map.mp m
    unfold word1
    split
    · decide
    · split <;> decide
  have h2 : (wordsOf many ss).length = many := by simp [wordsOf]
  have e1 : shC (.tup (wordsOf many ss)) = shCs (wordsOf many ss) + 2 := rfl
  have e2 : dpD (.tup (wordsOf many ss)) = dpDs (wordsOf many ss) + 1 := rfl
  have e3 : okSh (.tup (wordsOf many ss)) = okShs (wordsOf many ss) := rfl
  rw [h2] at h1
  unfold repOk
  rw [e1, e2, e3, h1.1, decide_eq_true (by omega), decide_eq_true (by omega)]
  rfl
theorem filter_not_len {α : Type} (p : α → Bool) : ∀ l : List α, (l.filter fun s => !p s).length + (l.filter fun s => p s).length = l.length
  | [] => rfl
  | x :: l => by
    have := filter_not_len p l
    cases h : p x <;> simp [List.filter_cons, h] <;> omega
theorem left_few {n : Nat} {ws : List Wash} {least most : Int} (hn : n ≤ 6) : (leftOf n ws least most).length ≤ 300 := by
  have e1 : (leftOf n ws least most).length ≤ (found n most).length := by
    unfold leftOf setsOf
    refine Nat.le_trans (List.length_filter_le _ _) ?_
    rw [srt_len]
    exact List.length_filter_le _ _
  have e2 := (found_len most (List.range n) [[]] 0 (by simp) (by simp)).1
  have e3 : 2 ^ (0 + (List.range n).length) ≤ 2 ^ 6 := Nat.pow_le_pow_right (by omega) (by simp; omega)
  have e4 : (found n most).length ≤ 2 ^ 6 := Nat.le_trans e2 e3
  omega
section
variable {z0 z1 : Nat} {h0 h1 : List Wash} {order zs : List (Int × Int)} {least most : Int} (w : Two z0 z1 h0 h1 order zs least most)
include w
theorem w_many : z0 + z1 ≤ 12 := by have := w.a0; have := w.a1; omega
theorem w_put (h : Int) (hh : h = 0 ∨ h = 1) (l : List Int) (hl : ∀ i ∈ l, 0 ≤ i ∧ i < szO z0 z1 h) : g__law_put [.lst (order.map oD), .int h, row l] = .ret (row (put (posO order) h l)) :=
  v__law_put (fun i m => (order_mem w.ho).mpr ⟨hh, (hl i m).1, (hl i m).2⟩) (by have := order_len w.ho; have := w_many w; omega)
theorem w_both : g__law_both [.lst (order.map oD), .lst [.lst ((leftOf z0 h0 0 (min 3 z0)).map row), .lst ((leftOf z1 h1 0 (min 3 z1)).map row)], .int least, .int most] = .ret (.lst ((leftOf (z0 + z1) (mixed (posO order) h0 h1 zs) least most).map row)) := by
  rw [w_due w]
  have a0 := w.a0
  have a1 := w.a1
  have hs : ∀ {n : Nat} {ws : List Wash} {x y : Int} {s : List Int}, s ∈ leftOf n ws x y → Sub n s := fun m => (mem_leftOf.mp m).1.1
  refine a__law_both (fun s m => ?_) (fun s m => ?_) (fun s m => ?_) (fun s m => ?_) (left_few a0.2) (left_few a1.2)
  · exact w_put w 0 (.inl rfl) s fun i mi => ⟨(hs m).1.2 i mi, (hs m).2 i mi⟩
  · exact w_put w 1 (.inr rfl) s fun i mi => ⟨(hs m).1.2 i mi, (hs m).2 i mi⟩
  · have := sub_len (hs m); omega
  · have := sub_len (hs m); omega
theorem w_told : ∃ dw, g_told [.int ((z0 + z1 : Nat) : Int), .tup ((mixed (posO order) h0 h1 zs).map wD), .int least, .int most] = .ret dw ∧ g__law_words [.int ((z0 + z1 : Nat) : Int), .lst ((leftOf (z0 + z1) (mixed (posO order) h0 h1 zs) least most).map row)] = .ret dw ∧ repOk dw = true := by
  refine ⟨_, v_told (w_case w), v__law_words (w_many w), ?_⟩
  split
  · rfl
  · exact words_rep (w_many w)
theorem w_first : g_first_wrong [.int ((z0 + z1 : Nat) : Int), .tup ((mixed (posO order) h0 h1 zs).map wD), .int least, .int most] = .ret (optD ((List.range (mixed (posO order) h0 h1 zs).length).filter (badI (fun i => leftOf (z0 + z1) ((mixed (posO order) h0 h1 zs).take (i + 1)) 0 (min 3 ((z0 + z1 : Nat) : Int))) least most)).head?) := by
  rw [v_first_wrong (w_case w), fw_all, List.head?_filter]
  have m3 := w.m3
  congr 3
  funext i
  unfold badI
  exact (may_empty w.l0 w.lm (by omega) (by omega)).symm
theorem w_nil (hd : leftOf (z0 + z1) (mixed (posO order) h0 h1 zs) least most = []) : ((List.range (mixed (posO order) h0 h1 zs).length).filter (badI (fun i => leftOf (z0 + z1) ((mixed (posO order) h0 h1 zs).take (i + 1)) 0 (min 3 ((z0 + z1 : Nat) : Int))) least most)).head?.isSome = true ∨ mixed (posO order) h0 h1 zs = [] := by
  have m3 := w.m3
  by_cases hn : mixed (posO order) h0 h1 zs = []
  · exact .inr hn
  · left
    have hp : 0 < (mixed (posO order) h0 h1 zs).length := List.length_pos_iff.mpr hn
    rw [List.head?_filter, List.find?_isSome]
    refine ⟨(mixed (posO order) h0 h1 zs).length - 1, List.mem_range.mpr (by omega), ?_⟩
    unfold badI
    dsimp only
    rw [may_empty w.l0 w.lm (by omega) (by omega), List.take_of_length_le (by omega), hd]
    rfl
theorem w_next {load : List Int} (hl : Sub (z0 + z1) load ∧ 1 ≤ load.length) : ∀ l, (l ∈ setsOf (z0 + z1) 1 ((z0 + z1 : Nat) : Int) ∧ ∀ l' ∈ setsOf (z0 + z1) 1 ((z0 + z1 : Nat) : Int), worst (leftOf (z0 + z1) (mixed (posO order) h0 h1 zs) least most) l ≤ worst (leftOf (z0 + z1) (mixed (posO order) h0 h1 zs) least most) l') →
    worst (leftOf (z0 + z1) (mixed (posO order) h0 h1 zs) least most) l = max (((leftOf (z0 + z1) (mixed (posO order) h0 h1 zs) least most).filter fun s => !hitB s l).length : Int) ((leftOf (z0 + z1) (mixed (posO order) h0 h1 zs) least most).filter fun s => hitB s l).length ∧
    worst (leftOf (z0 + z1) (mixed (posO order) h0 h1 zs) least most) l ≤ max (((leftOf (z0 + z1) (mixed (posO order) h0 h1 zs) least most).filter fun s => !hitB s load).length : Int) ((leftOf (z0 + z1) (mixed (posO order) h0 h1 zs) least most).filter fun s => hitB s load).length ∧
    ∀ c ∈ loneL (z0 + z1) (leftOf (z0 + z1) (mixed (posO order) h0 h1 zs) least most), worst (leftOf (z0 + z1) (mixed (posO order) h0 h1 zs) least most) l ≤ max c (((leftOf (z0 + z1) (mixed (posO order) h0 h1 zs) least most).length : Int) - c) := by
  generalize leftOf (z0 + z1) (mixed (posO order) h0 h1 zs) least most = due
  have hw : ∀ l : List Int, worst due l = max ((due.filter fun s => !hitB s l).length : Int) (due.filter fun s => hitB s l).length := fun l => by
    have := filter_not_len (fun s => hitB s l) due
    unfold worst
    omega
  rintro l ⟨m, best⟩
  refine ⟨hw l, ?_, fun c mc => ?_⟩
  · rw [← hw load]
    exact best load (mem_setsOf.mpr ⟨hl.1, .inl (by have := sub_len hl.1; omega), by omega⟩)
  · obtain ⟨i, mi, rfl⟩ := List.mem_map.mp mc
    have hi := List.mem_range.mp mi
    have := best [(i : Int)] (mem_setsOf.mpr ⟨⟨⟨by simp, fun x mx => by simp at mx; omega⟩, fun x mx => by simp at mx; omega⟩, .inl (by simp; omega), by simp⟩)
    refine Int.le_trans this (Int.le_of_eq ?_)
    have e : (fun s => hitB s [(i : Int)]) = fun s => memI s i := by
      funext s; simp [hitB]
    unfold worst
    rw [e]
end
end Mi.K17
set_option Elab.async false
set_option linter.all false
set_option maxRecDepth 100000
set_option maxHeartbeats 2000000
namespace Mi.K17
open PySem PySem.Spec PyProof.Rows L2 Mi

theorem v__law_putL {order : List (Int × Int)} {h : Int} {l : List Int} (hm : ∀ i ∈ l, (h, i) ∈ order) (hl : order.length ≤ 1000) : g__law_put [.lst (order.map oD), .int h, .lst (l.map .int)] = .ret (row (put (posO order) h l)) := by
  unfold g__law_put m__law_put b__law_put
  simp -implicitDefEqProofs [mkFn, startM]
  rw [comp_each (env1 := [some (false, .lst (order.map oD)), some (false, .int h), some (false, .lst (l.map .int)), none]) l D.int (fun i => .int (posO order h i))]
  · have e : sortedD (.lst (l.map fun i => D.int (posO order h i))) = some (.tmp (.lst ((put (posO order) h l).map .int))) := by
      rw [show (l.map fun i => D.int (posO order h i)) = (l.map (posO order h)).map .int by simp, sorted_ints]
      rfl
    simp -implicitDefEqProofs [wipeE, backE, e]
  · simp -implicitDefEqProofs
  · simp [free1]
  · intro i m
    have this : gIdx (.lst (order.map oD)) [.tup [.int h, .int i]] = some (.val (.int (order.idxOf (h, i)))) := gIdx_o (hm i m) hl
    simp -implicitDefEqProofs [wipeE, eMt, this, posO]
theorem isrt_sorted (l : List Int) : (isrt l).Pairwise (· ≤ ·) := by
  have h1 : (isrt l).Pairwise fun a b => decide (a ≤ b) = true := List.pairwise_mergeSort (fun a b c h h' => by simp at *; omega) (fun a b => by simp; omega) l
  exact h1.imp fun h => of_decide_eq_true h
theorem isrt_congr {a b : List Int} (h : a.Perm b) : isrt a = isrt b :=
  List.Perm.eq_of_pairwise (le := (· ≤ ·)) (fun x y _ _ h1 h2 => by omega) (isrt_sorted a) (isrt_sorted b) ((isrt_perm a).trans (h.trans (isrt_perm b).symm))
theorem put_congr {pos : Int → Int → Int} {h : Int} {a b : List Int} (p : a.Perm b) : put pos h a = put pos h b := isrt_congr (p.map _)
theorem both_isrt {pos : Int → Int → Int} (a b : List Int) : both pos a b = both pos (isrt a) (isrt b) := by
  unfold both
  rw [put_congr (isrt_perm a).symm, put_congr (isrt_perm b).symm]

theorem right_ok : (g__law_right [.pot]).lim 1000 fun d => d = .bl true := by
  unfold g__law_right m__law_right
  have hsome : ∀ n k : Nat, n ≤ 6 → k ≤ n → (g__law_some [.pot, .lst ((lots n).map .int), .int k]).lim k fun d => ∃ ys rest : List Int, d = .lst (ys.map .int) ∧ (ys ++ rest).Perm (lots n) ∧ ys.length = k := fun n k h1 h2 => v__law_some (by simp [lots]; exact h2) (by simp [lots]; omega)
  have hwash : ∀ (z : Nat) (b : Bool), 1 ≤ z → z ≤ 6 → (g__law_washes [.pot, .int z, .bl b]).lim 60 fun d => ∃ ws : List Wash, d = .lst (ws.map wD) ∧ HallOk z ws := fun z b h1 h6 => v__law_washes h1 h6
  refine mkFn_lim rfl ?_
  refine T.lim_mono (n := 200) (Q := fun r => ∃ e, r = (.rt (.bl true), e)) (fun r h => ?_) (by omega) ?_
  · obtain ⟨e, rfl⟩ := h
    exact .inr ⟨_, rfl, rfl⟩
  show (b__law_right g__law_beside g__law_both g__law_may g__law_put g__law_some takeG g__law_washes g__law_words g_first_wrong g_may_have g_next_load g_told _).lim 200 _
  refine T.lim_mono (fun _ h => h) (n := 2 + (1 + (120 + (12 + (1 + (1 + (12 + 14))))))) (by omega) ?_
  refine r0 fun z0 z1 a0 a1 => r1 fun b => r2 (s3 := none) hwash a0 a1 fun h0 h1 k0 k1 => ?_
  refine T.lim_mono (fun _ h => h) (n := (z0 + z1) + (1 + (1 + (12 + 14)))) (by omega) ?_
  refine r3 (v__law_beside (by omega)) fun order ho => ?_
  refine r4 fun least l0 l1 => r5 l0 l1 fun most m0 m1 => r6 ?_
  have e0 := k0.1
  have e1 := k1.1
  refine T.lim_mono (fun _ h => h) (n := (h0.length + h1.length) + 14) (by omega) ?_
  have hmem : ∀ z, zOk h0 h1 z → g__law_put [.lst (order.map oD), .int z.1, row (washAt h0 h1 z).1] = .ret (row (put (posO order) z.1 (washAt h0 h1 z).1)) := fun z hz => by
    refine v__law_put (fun i m => (order_mem ho).mpr ?_) (by have := order_len ho; omega)
    rcases hz with ⟨h, a, b⟩ | ⟨h, a, b⟩
    · have hk : z.2.toNat < h0.length := by omega
      have e : washAt h0 h1 z = h0[z.2.toNat] := by simp [washAt, h, hk]
      rw [e] at m
      have := (k0.2 _ (List.getElem_mem hk)).1
      exact ⟨.inl h, this.1.2 i m, by rw [h]; exact this.2 i m⟩
    · have hk : z.2.toNat < h1.length := by omega
      have e : washAt h0 h1 z = h1[z.2.toNat] := by simp [washAt, h, hk]
      rw [e] at m
      have := (k1.2 _ (List.getElem_mem hk)).1
      exact ⟨.inr h, this.1.2 i m, by rw [h]; exact this.2 i m⟩
  refine r7 (pos := posO order) (v__law_beside (by omega)) (by omega) rfl hmem fun zs x9 x10 x11 x12 hz => ?_
  have w : Two z0 z1 h0 h1 order zs least most := ⟨a0, a1, k0, k1, ho, hz, l0, m0, m1⟩
  have hm := w_many w
  have hl := w_len w
  refine r8 (due := leftOf (z0 + z1) (mixed (posO order) h0 h1 zs) least most) (m0 := leftOf z0 h0 0 (min 3 z0)) (m1 := leftOf z1 h1 0 (min 3 z1)) (v__law_may rfl (by omega)) (v__law_may rfl (by omega)) fun y9 => r9 (due := leftOf (z0 + z1) (mixed (posO order) h0 h1 zs) least most) (w_both w) ?_
  refine r10 (v_may_have (w_case w) hm) (left_rep hm) ?_
  obtain ⟨dw, t1, t2, t3⟩ := w_told w
  refine r11 t1 t2 t3 ?_
  refine r12 (v_may_have (hall_case a0.1 a0.2 k0) (by omega)) (left_rep (by omega)) (v_may_have (hall_case a1.1 a1.2 k1) (by omega)) (left_rep (by omega)) fun x9' x15 => r13 ?_
  refine r14 (my := fun i => leftOf (z0 + z1) ((mixed (posO order) h0 h1 zs).take (i + 1)) 0 (min 3 ((z0 + z1 : Nat) : Int))) (by omega) (fun i => v__law_may rfl hm) fun x10' => ?_
  refine r15 (w_first w) (fun k m => ?_) ?_
  · have := List.mem_range.mp (List.mem_filter.mp m).1
    omega
  refine r16 (fun e => ⟨e, rfl⟩) (w_first w) (w_nil w) fun hd => ?_
  refine r17 a0 a1 hsome fun la lb ra rb p1 p2 p3 p4 => ?_
  have sa := lots_perm p1
  have sb := lots_perm p3
  have hla : la.length ≤ 6 := by have := p1.length_eq; simp [lots] at this; omega
  have hlb : lb.length ≤ 6 := by have := p3.length_eq; simp [lots] at this; omega
  have mem : ∀ {n : Nat} {l : List Int}, Sub n (isrt l) → ∀ i ∈ l, 0 ≤ i ∧ i < n := fun {n l} s i m => ⟨s.1.2 i ((isrt_perm l).mem_iff.mpr m), s.2 i ((isrt_perm l).mem_iff.mpr m)⟩
  have hload : Sub (z0 + z1) (both (posO order) la lb) ∧ 1 ≤ (both (posO order) la lb).length := by
    rw [both_isrt]
    refine ⟨both_sub (w_pos w) sa sb, ?_⟩
    rw [both_len (w_pos w), isrt_len, isrt_len]
    omega
  have hC := w_next w hload
  generalize hdue : leftOf (z0 + z1) (mixed (posO order) h0 h1 zs) least most = due at *
  generalize hws : mixed (posO order) h0 h1 zs = ws at *
  refine r18 (pos := posO order) (ws := ws) (la := la) (lb := lb) (many := z0 + z1) (due := due) (C := fun l => l ∈ setsOf (z0 + z1) 1 ((z0 + z1 : Nat) : Int) ∧ ∀ l' ∈ setsOf (z0 + z1) 1 ((z0 + z1 : Nat) : Int), worst due l ≤ worst due l') (by omega) (by omega) ?_ ?_ (by omega) (fun wd => ?_) hm (fun _ => ?_) hC
  · exact v__law_putL (fun i m => (order_mem ho).mpr ⟨.inl rfl, mem sa i m⟩) (by have := order_len ho; omega)
  · exact v__law_putL (fun i m => (order_mem ho).mpr ⟨.inr rfl, mem sb i m⟩) (by have := order_len ho; omega)
  · have := v_may_have (w_case2 w (v := (both (posO order) la lb, wd)) hload) hm
    rw [left_snoc, hws, hdue] at this
    exact this
  · have := v_next_load (w_case w)
    rw [hws, hdue] at this
    refine T.lim_mono (fun d h => ?_) (Nat.le_refl _) this
    obtain ⟨l, q1, q2, q3⟩ := h
    exact ⟨l, q2, q1, q3⟩
end Mi.K17
set_option Elab.async false
set_option linter.all false
set_option maxRecDepth 100000
set_option maxHeartbeats 2000000
namespace Mi.K17
open PySem PySem.Spec PyProof.Rows L2 Mi

theorem absD_int (i : Int) : absD (.int i) = some (.val (.int (if i < 0 then -i else i))) := rfl
theorem gMul_ii (i j : Int) : gMul (.int i) (.int j) = (iMul i j).map .val := rfl
theorem iMul_r {i j : Int} (h : j.natAbs < 18446744073709551616) : iMul i j = some (.int (i * j)) := if_pos (.inr h)
theorem iMul_l {i j : Int} (h : i.natAbs < 18446744073709551616) : iMul i j = some (.int (i * j)) := if_pos (.inl h)
theorem iMod_p {i j : Int} (h : 0 < j) : iMod i j = some (.int (i % j)) := if_pos h
theorem iPow_10 : iPow 10 60 = some (.int (10 ^ 60)) := by
  unfold iPow
  rw [if_pos (by decide +kernel)]
  rfl
theorem iPow_60 : iPow (10 ^ 60) 5 = some (.int (10 ^ 300)) := by
  unfold iPow
  rw [if_pos (by decide +kernel)]
  congr 2
theorem iPow_18 : iPow 10 18 = some (.int (10 ^ 18)) := by
  unfold iPow
  rw [if_pos (by decide +kernel)]
  rfl
theorem iGe_e' (i j : Int) : iGe i j = some (.bl (decide (j ≤ i))) := rfl

theorem pot_rest {s0 s3 s4 : Slot} {p c : Int} (h0 : 0 ≤ p) (h1 : p < 1000) : ∃ x y : Int, ∃ e, r__law_pot_1 [s0, some (false, .int p), some (false, .int c), s3, s4] = .ret (.rt (.lst [.int x, .int y, .int 0]), e) ∧ 0 ≤ x ∧ x < 10 ^ 300 ∧ 0 ≤ y ∧ y < 2305843009213693952 := by
  unfold r__law_pot_1 r__law_pot_2 r__law_pot_3
  generalize ha : (if c < 0 then -c else c) = a
  generalize hT : (10 : Int) ^ 300 = T300
  have hTp : 0 < T300 := by rw [← hT]; exact Int.pow_pos (by decide)
  have m1 : iMod a T300 = some (.int (a % T300)) := iMod_p hTp
  have m3 : ∀ i : Int, iMod i 2305843009213693951 = some (.int (i % 2305843009213693951)) := fun i => iMod_p (by decide)
  have m4 : ∀ i : Int, iMod i 2305843009213693921 = some (.int (i % 2305843009213693921)) := fun i => iMod_p (by decide)
  have e1 : ∀ i : Int, iMul i 83477 = some (.int (i * 83477)) := fun i => iMul_r (by decide)
  have e2 : ∀ i : Int, iMul 12289 i = some (.int (12289 * i)) := fun i => iMul_l (by decide)
  have e3 : ∀ i : Int, iMul i p = some (.int (i * p)) := fun i => iMul_r (by omega)
  have e4 : ∀ (i : Int) (b : Bool), iMul i (if b = true then 1 else 0) = some (.int (i * (if b = true then 1 else 0))) := fun i b => iMul_r (by cases b <;> decide)
  have p1 := iPow_10
  have p2 := iPow_60
  have p3 := iPow_18
  rw [hT] at p2
  generalize (10 : Int) ^ 60 = T60 at p1 p2
  generalize (10 : Int) ^ 18 = T18 at p3
  simp -implicitDefEqProofs only [sSeq_e, sSet_e, sRet_e, eOp_e, eCall_e, hCons_e, hNil_e, eVar_e, eC_e, eLst_e, T.ret_bind, f2_e, rs_val, rs_tmp, rss_cons, rss_nil, rssK_s, okH_s, g1_e, absD_int, intD_int, intD_bl, gI_e, gMul_ii, Option.map, p1, p2, p3, m1, m3, m4, e1, e2, e3, e4, iGe_e', put_e, evK_s, sqK_nx, fz_val, fz_tmp, fzs_cons, fzs_nil, fzK_s, fz1K_s, ha, gAdd_int, List.getElem?_cons_zero, List.getElem?_cons_succ, List.length_cons, List.length_nil, List.set_cons_zero, List.set_cons_succ, Nat.reduceAdd, Nat.reduceLT, if_true, Int.reduceAdd]
  refine ⟨_, _, _, rfl, ?_, ?_, ?_, ?_⟩
  · have := Int.emod_nonneg a (Int.ne_of_gt hTp)
    split <;> omega
  · have := Int.emod_lt_of_pos a hTp
    have := Int.emod_nonneg a (Int.ne_of_gt hTp)
    split <;> omega
  · omega
  · omega
theorem makes_pot : MakesPot q__law_pot := by
  intro ns p h0 h1
  unfold q__law_pot m__law_pot b__law_pot
  unfold mkFn
  rw [if_pos (show [D.scr ns, D.int p].length = 2 from rfl)]
  simp -implicitDefEqProofs only [sSeq_e, sSet_e, startM, List.map, List.length_cons, List.length_nil, Nat.reduceAdd, Nat.reduceSub, List.replicate, List.append, List.cons_append, List.nil_append]
  have key : ∀ (m : M) (c : Int) (e0 : Ev), e0 = [some (false, .scr ns), some (false, .int p), none, none, none] → m e0 = .ret (.val (.int c), e0) → ∃ x y : Int, ((((m e0).bind fun r => evK (fun e => T.ret (Fl.nx, e)) (Mi.put 2 r)).bind (sqK r__law_pot_1)).bind fun r => match r.1 with | .rt d => T.ret d | .nx => T.ret .non | _ => .fail) = .ret (.lst [.int x, .int y, .int 0]) ∧ 0 ≤ x ∧ x < 10 ^ 300 ∧ 0 ≤ y ∧ y < 2305843009213693952 := by
    rintro m c e0 rfl hm
    obtain ⟨x, y, e, h, b⟩ := pot_rest (s0 := some (false, .scr ns)) (s3 := none) (s4 := none) (c := c) h0 h1
    refine ⟨x, y, ?_, b⟩
    rw [hm]
    simp -implicitDefEqProofs only [T.ret_bind, put_e, List.length_cons, List.length_nil, Nat.reduceAdd, Nat.reduceLT, if_true, evK_s, sqK_nx, List.set_cons_zero, List.set_cons_succ]
    rw [h]
    rfl
  by_cases hp : p < (ns.length : Int)
  · obtain ⟨k, rfl⟩ : ∃ k : Nat, p = k := ⟨p.toNat, by omega⟩
    have hk : k < ns.length := by omega
    refine key _ ns[k] _ rfl ?_
    have hx : gIx (.scr ns) (.int k) = some (.val (.int ns[k])) := by
      simp [gIx, L2.atI, L2.ixN, hk]
    simp -implicitDefEqProofs [hx, hp]
  · have hs : ∃ z : Int, sumD (.lst (cutD (ns.map .int) none (some 1))) = some (.val (.int z)) := by
      have := cut_to (ns.map .int) 1
      rw [show ((1 : Nat) : Int) = 1 from rfl] at this
      rw [this, ← List.map_take, sumD_ints]
      exact ⟨_, rfl⟩
    obtain ⟨z, hz⟩ := hs
    refine key _ (z % 1000253 + 7331 * p + 4177) _ rfl ?_
    have m1 : iMod z 1000253 = some (.int (z % 1000253)) := iMod_p (by decide)
    have e2 : iMul 7331 p = some (.int (7331 * p)) := iMul_l (by decide)
    simp -implicitDefEqProofs [hp, gSl, hz, m1, e2, gMul_ii]
end Mi.K17
set_option Elab.async false
set_option linter.all false
set_option maxRecDepth 100000
set_option maxHeartbeats 2000000
namespace Mi.K17
open PySem PySem.Spec PyProof.Rows L2 Mi

theorem v__law_cells (ns : List Int) : ∃ k : Nat, k ≤ 3 ∧ g__law_cells [.scr ns, .int 3] = .ret (.lst ((lots k).map .int)) := by
  refine ⟨(max 1 (min 3 (ns.length : Int))).toNat, by omega, ?_⟩
  have e : max 1 (min 3 (ns.length : Int)) = ((max 1 (min 3 (ns.length : Int))).toNat : Int) := by omega
  have h : (max 1 (min 3 (ns.length : Int))).toNat ≤ 3 := by omega
  generalize (max 1 (min 3 (ns.length : Int))).toNat = k at *
  unfold g__law_cells m__law_cells b__law_cells
  simp -implicitDefEqProofs [mkFn, startM, eRg1_e, e, rgK1_i, rgH_nat (n := k) (by omega)]
theorem law_lap {gc gq gr : List D → T D} {s0 s1 s3 : Slot} (hr : (gr [.pot]).lim 1000 fun d => d = .bl true) : (f_law_1 gc gq gr [s0, s1, some (false, .pot), s3]).lim 1000 fun r => r.1 = .nx ∧ r.2 = [s0, s1, some (false, .pot), s3] := by
  unfold f_law_1
  simp -implicitDefEqProofs
  simp only [T.bind_bind]
  refine T.lim_then hr (Nat.le_refl _) fun d hd => ?_
  subst hd
  simp -implicitDefEqProofs [lf]
theorem law_cell {gc gr : List D → T D} {ns : List Int} {s2 s3 : Slot} {k : Nat} (hk : k < 1000) (hr : (gr [.pot]).lim 1000 fun d => d = .bl true) : (f_law_2 gc potG gr [some (false, .scr ns), some (false, .int k), s2, s3]).lim 3000 fun r => r.1 = .nx ∧ ∃ t1 t2 t3, r.2 = [some (false, .scr ns), t1, t2, t3] := by
  unfold f_law_2
  have hp : potG [.scr ns, .int k] = .ret .pot := if_pos ⟨by omega, by omega⟩
  have e2 : iRng (hCons (eC (.int 3)) hNil) [some (false, .scr ns), some (false, .int k), some (false, .pot), s3] = .ret ((List.range 3).map fun i : Nat => D.int i, [some (false, .scr ns), some (false, .int k), some (false, .pot), s3]) := iRng1_of (n := 3) (by simp -implicitDefEqProofs) (by omega)
  simp -implicitDefEqProofs only [sSeq_e, sFor_e, sSet_e]
  simp -implicitDefEqProofs [hp, lf, -iRng_e]
  rw [e2, T.ret_bind]
  have := forL_lim (f := fun i : Nat => D.int i) (g := gNm 3) (body := f_law_1 gc potG gr) (fun _ e => ∃ t, e = [some (false, .scr ns), some (false, .int k), some (false, .pot), t]) (n := 1000) (List.range 3) [] [some (false, .scr ns), some (false, .int k), some (false, .pot), s3] (fun p x q e _ he => by
    obtain ⟨t, rfl⟩ := he
    refine ⟨[some (false, .scr ns), some (false, .int k), some (false, .pot), some (false, .int x)], by simp, ?_⟩
    exact T.lim_mono (fun r h => ⟨h.1, _, h.2⟩) (Nat.le_refl _) (law_lap hr)) ⟨s3, rfl⟩
  refine T.lim_mono (fun r h => ?_) (by simp) this
  obtain ⟨h1, t, h2⟩ := h
  exact ⟨h1, _, _, _, h2⟩
theorem law_true (ns : List Int) (h : ns.length ≤ 63) : ∃ N, N ≤ LIM ∧ (g_law [.scr ns]).ok N fun _ d => d = .bl true := by
  refine ⟨9000, by unfold LIM; exact Nat.le_trans (by decide) (Nat.pow_le_pow_right (n := 2) (by decide) (show 14 ≤ 100000 by decide)), T.ok_lim ?_⟩
  obtain ⟨k, hk, hc⟩ := v__law_cells ns
  unfold g_law m_law b_law
  generalize hb : (sSeq (sFor (iSeq (eDef g__law_cells (hCons (eVar 0) (hCons (eC (.int 3)) hNil)))) (gNm 1) (f_law_2 g__law_cells potG g__law_right)) (sRet (eC (.bl true)))) = bb
  refine mkFn_lim (n := 4) (np := 1) (body := bb) (ds := [.scr ns]) rfl ?_
  rw [← hb, show startM 4 [D.scr ns] = [some (false, .scr ns), none, none, none] from rfl]
  have := forL_lim (f := D.int) (g := gNm 1) (body := f_law_2 g__law_cells potG g__law_right) (fun _ e => ∃ t1 t2 t3, e = [some (false, .scr ns), t1, t2, t3]) (n := 3000) (lots k) [] [some (false, .scr ns), none, none, none] (fun p x q e hpq he => by
    obtain ⟨t1, t2, t3, rfl⟩ := he
    have m : x ∈ lots k := by rw [show lots k = p ++ x :: q by simpa using hpq]; simp
    obtain ⟨j, mj, rfl⟩ := List.mem_map.mp m
    have := List.mem_range.mp mj
    exact ⟨[some (false, .scr ns), some (false, .int j), t2, t3], by simp, law_cell (by omega) right_ok⟩) ⟨none, none, none, rfl⟩
  simp -implicitDefEqProofs only [sSeq_e, sFor_e]
  simp -implicitDefEqProofs [hc, lf]
  try simp only [T.bind_bind]
  refine T.lim_then this (by simp [lots]; omega) fun r h => ?_
  obtain ⟨h1, t1, t2, t3, h2⟩ := h
  obtain ⟨fl, e⟩ := r
  dsimp only at h1 h2
  subst h1
  simp -implicitDefEqProofs
end Mi.K17
set_option Elab.async false
set_option linter.all false
set_option maxRecDepth 100000
set_option maxHeartbeats 4000000
namespace Mi.K17
open PySem PySem.Spec PyProof.Rows L2 Mi
theorem all_mk {l : PySem.W.OpenLaw} {w : World} {K : PySem.W.Frag} {h : Heap} {mg : Str → Option Value} {fa : Addr} (X : K.In h) (G : h.Ns mainGlobals mg) (hfa : mg "law" = some (.ref fa))
    {od0 an0 : Option Addr} {sl0 : Array (Option Value)} {oc0 kV0 dc0 pm0 cd0 ct0 : Value} {f0 : Addr}
    {od1 an1 : Option Addr} {sl1 : Array (Option Value)} {oc1 kV1 dc1 pm1 cd1 ct1 : Value} {f1 : Addr}
    {od2 an2 : Option Addr} {sl2 : Array (Option Value)} {oc2 kV2 dc2 pm2 cd2 ct2 : Value} {f2 : Addr}
    {od3 an3 : Option Addr} {sl3 : Array (Option Value)} {oc3 kV3 dc3 pm3 cd3 ct3 : Value} {f3 : Addr}
    {od4 an4 : Option Addr} {sl4 : Array (Option Value)} {oc4 kV4 dc4 pm4 cd4 ct4 : Value} {f4 : Addr}
    {od5 an5 : Option Addr} {sl5 : Array (Option Value)} {oc5 kV5 dc5 pm5 cd5 ct5 : Value} {f5 : Addr}
    {od6 an6 : Option Addr} {sl6 : Array (Option Value)} {oc6 kV6 dc6 pm6 cd6 ct6 : Value} {f6 : Addr}
    {od7 an7 : Option Addr} {sl7 : Array (Option Value)} {oc7 kV7 dc7 pm7 cd7 ct7 : Value} {f7 : Addr}
    {od8 an8 : Option Addr} {sl8 : Array (Option Value)} {oc8 kV8 dc8 pm8 cd8 ct8 : Value} {f8 : Addr}
    {od9 an9 : Option Addr} {sl9 : Array (Option Value)} {oc9 kV9 dc9 pm9 cd9 ct9 : Value} {f9 : Addr}
    {od10 an10 : Option Addr} {sl10 : Array (Option Value)} {oc10 kV10 dc10 pm10 cd10 ct10 : Value} {f10 : Addr}
    {od11 an11 : Option Addr} {sl11 : Array (Option Value)} {oc11 kV11 dc11 pm11 cd11 ct11 : Value} {f11 : Addr}
    {od12 an12 : Option Addr} {sl12 : Array (Option Value)} {oc12 kV12 dc12 pm12 cd12 ct12 : Value} {f12 : Addr}
    {od13 an13 : Option Addr} {sl13 : Array (Option Value)} {oc13 kV13 dc13 pm13 cd13 ct13 : Value} {f13 : Addr}
    {od14 an14 : Option Addr} {sl14 : Array (Option Value)} {oc14 kV14 dc14 pm14 cd14 ct14 : Value} {f14 : Addr}
    {od15 an15 : Option Addr} {sl15 : Array (Option Value)} {oc15 kV15 dc15 pm15 cd15 ct15 : Value} {f15 : Addr}
    {od16 an16 : Option Addr} {sl16 : Array (Option Value)} {oc16 kV16 dc16 pm16 cd16 ct16 : Value} {f16 : Addr}
    {od17 an17 : Option Addr} {sl17 : Array (Option Value)} {oc17 kV17 dc17 pm17 cd17 ct17 : Value} {f17 : Addr}
    {od18 an18 : Option Addr} {sl18 : Array (Option Value)} {oc18 kV18 dc18 pm18 cd18 ct18 : Value} {f18 : Addr}
    {od19 an19 : Option Addr} {sl19 : Array (Option Value)} {oc19 kV19 dc19 pm19 cd19 ct19 : Value} {f19 : Addr}
    {od20 an20 : Option Addr} {sl20 : Array (Option Value)} {oc20 kV20 dc20 pm20 cd20 ct20 : Value} {f20 : Addr}
    {od21 an21 : Option Addr} {sl21 : Array (Option Value)} {oc21 kV21 dc21 pm21 cd21 ct21 : Value} {f21 : Addr}
    {od22 an22 : Option Addr} {sl22 : Array (Option Value)} {oc22 kV22 dc22 pm22 cd22 ct22 : Value} {f22 : Addr}
    {od23 an23 : Option Addr} {sl23 : Array (Option Value)} {oc23 kV23 dc23 pm23 cd23 ct23 : Value} {f23 : Addr}
    {od24 an24 : Option Addr} {sl24 : Array (Option Value)} {oc24 kV24 dc24 pm24 cd24 ct24 : Value} {f24 : Addr}
    {od25 an25 : Option Addr} {sl25 : Array (Option Value)} {oc25 kV25 dc25 pm25 cd25 ct25 : Value} {f25 : Addr}
    {od26 an26 : Option Addr} {sl26 : Array (Option Value)} {oc26 kV26 dc26 pm26 cd26 ct26 : Value} {f26 : Addr}
    {od27 an27 : Option Addr} {sl27 : Array (Option Value)} {oc27 kV27 dc27 pm27 cd27 ct27 : Value} {f27 : Addr}
    {od28 an28 : Option Addr} {sl28 : Array (Option Value)} {oc28 kV28 dc28 pm28 cd28 ct28 : Value} {f28 : Addr}
    {od29 an29 : Option Addr} {sl29 : Array (Option Value)} {oc29 kV29 dc29 pm29 cd29 ct29 : Value} {f29 : Addr}
    {t_MOST_LOTS : Tok}
    {t_MOST_RAN : Tok}
    {t_MOST_WASHES : Tok}
    {t_NEVER : Tok}
    {t_OPEN : Tok}
    {t_PAIR : Tok}
    {t_SURE : Tok}
    (a0 : PySem.W.nsIn K mainGlobals "is_tuple" = some (some (.ref f0))) (l0 : K.lookup f0 = some ⟨oc0, od0, .func (PySem.W.fnOf "is_tuple" "is_tuple" (defArgs st_is_tuple) (defBody st_is_tuple) (defScope st_is_tuple) .none kV0 dc0 pm0 an0 cd0 ct0), sl0⟩) (e0 : PySem.W.codeIn K cd0 "is_tuple" = true) (k0 : PySem.W.keepIn K (.ref f0) = true)
    (a1 : PySem.W.nsIn K mainGlobals "is_whole" = some (some (.ref f1))) (l1 : K.lookup f1 = some ⟨oc1, od1, .func (PySem.W.fnOf "is_whole" "is_whole" (defArgs st_is_whole) (defBody st_is_whole) (defScope st_is_whole) .none kV1 dc1 pm1 an1 cd1 ct1), sl1⟩) (e1 : PySem.W.codeIn K cd1 "is_whole" = true) (k1 : PySem.W.keepIn K (.ref f1) = true)
    (a2 : PySem.W.nsIn K mainGlobals "is_integer" = some (some (.ref f2))) (l2 : K.lookup f2 = some ⟨oc2, od2, .func (PySem.W.fnOf "is_integer" "is_integer" (defArgs st_is_integer) (defBody st_is_integer) (defScope st_is_integer) .none kV2 dc2 pm2 an2 cd2 ct2), sl2⟩) (e2 : PySem.W.codeIn K cd2 "is_integer" = true) (k2 : PySem.W.keepIn K (.ref f2) = true)
    (a3 : PySem.W.nsIn K mainGlobals "is_rising" = some (some (.ref f3))) (l3 : K.lookup f3 = some ⟨oc3, od3, .func (PySem.W.fnOf "is_rising" "is_rising" (defArgs st_is_rising) (defBody st_is_rising) (defScope st_is_rising) .none kV3 dc3 pm3 an3 cd3 ct3), sl3⟩) (e3 : PySem.W.codeIn K cd3 "is_rising" = true) (k3 : PySem.W.keepIn K (.ref f3) = true)
    (a4 : PySem.W.nsIn K mainGlobals "is_load" = some (some (.ref f4))) (l4 : K.lookup f4 = some ⟨oc4, od4, .func (PySem.W.fnOf "is_load" "is_load" (defArgs st_is_load) (defBody st_is_load) (defScope st_is_load) .none kV4 dc4 pm4 an4 cd4 ct4), sl4⟩) (e4 : PySem.W.codeIn K cd4 "is_load" = true) (k4 : PySem.W.keepIn K (.ref f4) = true)
    (a5 : PySem.W.nsIn K mainGlobals "is_wash" = some (some (.ref f5))) (l5 : K.lookup f5 = some ⟨oc5, od5, .func (PySem.W.fnOf "is_wash" "is_wash" (defArgs st_is_wash) (defBody st_is_wash) (defScope st_is_wash) .none kV5 dc5 pm5 an5 cd5 ct5), sl5⟩) (e5 : PySem.W.codeIn K cd5 "is_wash" = true) (k5 : PySem.W.keepIn K (.ref f5) = true)
    (a6 : PySem.W.nsIn K mainGlobals "check_many" = some (some (.ref f6))) (l6 : K.lookup f6 = some ⟨oc6, od6, .func (PySem.W.fnOf "check_many" "check_many" (defArgs st_check_many) (defBody st_check_many) (defScope st_check_many) .none kV6 dc6 pm6 an6 cd6 ct6), sl6⟩) (e6 : PySem.W.codeIn K cd6 "check_many" = true) (k6 : PySem.W.keepIn K (.ref f6) = true)
    (a7 : PySem.W.nsIn K mainGlobals "check_case" = some (some (.ref f7))) (l7 : K.lookup f7 = some ⟨oc7, od7, .func (PySem.W.fnOf "check_case" "check_case" (defArgs st_check_case) (defBody st_check_case) (defScope st_check_case) .none kV7 dc7 pm7 an7 cd7 ct7), sl7⟩) (e7 : PySem.W.codeIn K cd7 "check_case" = true) (k7 : PySem.W.keepIn K (.ref f7) = true)
    (a8 : PySem.W.nsIn K mainGlobals "sets_of" = some (some (.ref f8))) (l8 : K.lookup f8 = some ⟨oc8, od8, .func (PySem.W.fnOf "sets_of" "sets_of" (defArgs st_sets_of) (defBody st_sets_of) (defScope st_sets_of) .none kV8 dc8 pm8 an8 cd8 ct8), sl8⟩) (e8 : PySem.W.codeIn K cd8 "sets_of" = true) (k8 : PySem.W.keepIn K (.ref f8) = true)
    (a9 : PySem.W.nsIn K mainGlobals "fits" = some (some (.ref f9))) (l9 : K.lookup f9 = some ⟨oc9, od9, .func (PySem.W.fnOf "fits" "fits" (defArgs st_fits) (defBody st_fits) (defScope st_fits) .none kV9 dc9 pm9 an9 cd9 ct9), sl9⟩) (e9 : PySem.W.codeIn K cd9 "fits" = true) (k9 : PySem.W.keepIn K (.ref f9) = true)
    (a10 : PySem.W.nsIn K mainGlobals "left_of" = some (some (.ref f10))) (l10 : K.lookup f10 = some ⟨oc10, od10, .func (PySem.W.fnOf "left_of" "left_of" (defArgs st_left_of) (defBody st_left_of) (defScope st_left_of) .none kV10 dc10 pm10 an10 cd10 ct10), sl10⟩) (e10 : PySem.W.codeIn K cd10 "left_of" = true) (k10 : PySem.W.keepIn K (.ref f10) = true)
    (a11 : PySem.W.nsIn K mainGlobals "may_have" = some (some (.ref f11))) (l11 : K.lookup f11 = some ⟨oc11, od11, .func (PySem.W.fnOf "may_have" "may_have" (defArgs st_may_have) (defBody st_may_have) (defScope st_may_have) .none kV11 dc11 pm11 an11 cd11 ct11), sl11⟩) (e11 : PySem.W.codeIn K cd11 "may_have" = true) (k11 : PySem.W.keepIn K (.ref f11) = true)
    (a12 : PySem.W.nsIn K mainGlobals "words_of" = some (some (.ref f12))) (l12 : K.lookup f12 = some ⟨oc12, od12, .func (PySem.W.fnOf "words_of" "words_of" (defArgs st_words_of) (defBody st_words_of) (defScope st_words_of) .none kV12 dc12 pm12 an12 cd12 ct12), sl12⟩) (e12 : PySem.W.codeIn K cd12 "words_of" = true) (k12 : PySem.W.keepIn K (.ref f12) = true)
    (a13 : PySem.W.nsIn K mainGlobals "told" = some (some (.ref f13))) (l13 : K.lookup f13 = some ⟨oc13, od13, .func (PySem.W.fnOf "told" "told" (defArgs st_told) (defBody st_told) (defScope st_told) .none kV13 dc13 pm13 an13 cd13 ct13), sl13⟩) (e13 : PySem.W.codeIn K cd13 "told" = true) (k13 : PySem.W.keepIn K (.ref f13) = true)
    (a14 : PySem.W.nsIn K mainGlobals "first_wrong" = some (some (.ref f14))) (l14 : K.lookup f14 = some ⟨oc14, od14, .func (PySem.W.fnOf "first_wrong" "first_wrong" (defArgs st_first_wrong) (defBody st_first_wrong) (defScope st_first_wrong) .none kV14 dc14 pm14 an14 cd14 ct14), sl14⟩) (e14 : PySem.W.codeIn K cd14 "first_wrong" = true) (k14 : PySem.W.keepIn K (.ref f14) = true)
    (a15 : PySem.W.nsIn K mainGlobals "next_load" = some (some (.ref f15))) (l15 : K.lookup f15 = some ⟨oc15, od15, .func (PySem.W.fnOf "next_load" "next_load" (defArgs st_next_load) (defBody st_next_load) (defScope st_next_load) .none kV15 dc15 pm15 an15 cd15 ct15), sl15⟩) (e15 : PySem.W.codeIn K cd15 "next_load" = true) (k15 : PySem.W.keepIn K (.ref f15) = true)
    (a16 : PySem.W.nsIn K mainGlobals "_law_pot" = some (some (.ref f16))) (l16 : K.lookup f16 = some ⟨oc16, od16, .func (PySem.W.fnOf "_law_pot" "_law_pot" (defArgs st__law_pot) (defBody st__law_pot) (defScope st__law_pot) .none kV16 dc16 pm16 an16 cd16 ct16), sl16⟩) (e16 : PySem.W.codeIn K cd16 "_law_pot" = true) (k16 : PySem.W.keepIn K (.ref f16) = true)
    (a17 : PySem.W.nsIn K mainGlobals "_law_take" = some (some (.ref f17))) (l17 : K.lookup f17 = some ⟨oc17, od17, .func (PySem.W.fnOf "_law_take" "_law_take" (defArgs st__law_take) (defBody st__law_take) (defScope st__law_take) .none kV17 dc17 pm17 an17 cd17 ct17), sl17⟩) (e17 : PySem.W.codeIn K cd17 "_law_take" = true) (k17 : PySem.W.keepIn K (.ref f17) = true)
    (a18 : PySem.W.nsIn K mainGlobals "_law_cells" = some (some (.ref f18))) (l18 : K.lookup f18 = some ⟨oc18, od18, .func (PySem.W.fnOf "_law_cells" "_law_cells" (defArgs st__law_cells) (defBody st__law_cells) (defScope st__law_cells) .none kV18 dc18 pm18 an18 cd18 ct18), sl18⟩) (e18 : PySem.W.codeIn K cd18 "_law_cells" = true) (k18 : PySem.W.keepIn K (.ref f18) = true)
    (a19 : PySem.W.nsIn K mainGlobals "_law_some" = some (some (.ref f19))) (l19 : K.lookup f19 = some ⟨oc19, od19, .func (PySem.W.fnOf "_law_some" "_law_some" (defArgs st__law_some) (defBody st__law_some) (defScope st__law_some) .none kV19 dc19 pm19 an19 cd19 ct19), sl19⟩) (e19 : PySem.W.codeIn K cd19 "_law_some" = true) (k19 : PySem.W.keepIn K (.ref f19) = true)
    (a20 : PySem.W.nsIn K mainGlobals "_law_merged" = some (some (.ref f20))) (l20 : K.lookup f20 = some ⟨oc20, od20, .func (PySem.W.fnOf "_law_merged" "_law_merged" (defArgs st__law_merged) (defBody st__law_merged) (defScope st__law_merged) .none kV20 dc20 pm20 an20 cd20 ct20), sl20⟩) (e20 : PySem.W.codeIn K cd20 "_law_merged" = true) (k20 : PySem.W.keepIn K (.ref f20) = true)
    (a21 : PySem.W.nsIn K mainGlobals "_law_beside" = some (some (.ref f21))) (l21 : K.lookup f21 = some ⟨oc21, od21, .func (PySem.W.fnOf "_law_beside" "_law_beside" (defArgs st__law_beside) (defBody st__law_beside) (defScope st__law_beside) .none kV21 dc21 pm21 an21 cd21 ct21), sl21⟩) (e21 : PySem.W.codeIn K cd21 "_law_beside" = true) (k21 : PySem.W.keepIn K (.ref f21) = true)
    (a22 : PySem.W.nsIn K mainGlobals "_law_put" = some (some (.ref f22))) (l22 : K.lookup f22 = some ⟨oc22, od22, .func (PySem.W.fnOf "_law_put" "_law_put" (defArgs st__law_put) (defBody st__law_put) (defScope st__law_put) .none kV22 dc22 pm22 an22 cd22 ct22), sl22⟩) (e22 : PySem.W.codeIn K cd22 "_law_put" = true) (k22 : PySem.W.keepIn K (.ref f22) = true)
    (a23 : PySem.W.nsIn K mainGlobals "_law_washes" = some (some (.ref f23))) (l23 : K.lookup f23 = some ⟨oc23, od23, .func (PySem.W.fnOf "_law_washes" "_law_washes" (defArgs st__law_washes) (defBody st__law_washes) (defScope st__law_washes) .none kV23 dc23 pm23 an23 cd23 ct23), sl23⟩) (e23 : PySem.W.codeIn K cd23 "_law_washes" = true) (k23 : PySem.W.keepIn K (.ref f23) = true)
    (a24 : PySem.W.nsIn K mainGlobals "_law_sets" = some (some (.ref f24))) (l24 : K.lookup f24 = some ⟨oc24, od24, .func (PySem.W.fnOf "_law_sets" "_law_sets" (defArgs st__law_sets) (defBody st__law_sets) (defScope st__law_sets) .none kV24 dc24 pm24 an24 cd24 ct24), sl24⟩) (e24 : PySem.W.codeIn K cd24 "_law_sets" = true) (k24 : PySem.W.keepIn K (.ref f24) = true)
    (a25 : PySem.W.nsIn K mainGlobals "_law_may" = some (some (.ref f25))) (l25 : K.lookup f25 = some ⟨oc25, od25, .func (PySem.W.fnOf "_law_may" "_law_may" (defArgs st__law_may) (defBody st__law_may) (defScope st__law_may) .none kV25 dc25 pm25 an25 cd25 ct25), sl25⟩) (e25 : PySem.W.codeIn K cd25 "_law_may" = true) (k25 : PySem.W.keepIn K (.ref f25) = true)
    (a26 : PySem.W.nsIn K mainGlobals "_law_both" = some (some (.ref f26))) (l26 : K.lookup f26 = some ⟨oc26, od26, .func (PySem.W.fnOf "_law_both" "_law_both" (defArgs st__law_both) (defBody st__law_both) (defScope st__law_both) .none kV26 dc26 pm26 an26 cd26 ct26), sl26⟩) (e26 : PySem.W.codeIn K cd26 "_law_both" = true) (k26 : PySem.W.keepIn K (.ref f26) = true)
    (a27 : PySem.W.nsIn K mainGlobals "_law_words" = some (some (.ref f27))) (l27 : K.lookup f27 = some ⟨oc27, od27, .func (PySem.W.fnOf "_law_words" "_law_words" (defArgs st__law_words) (defBody st__law_words) (defScope st__law_words) .none kV27 dc27 pm27 an27 cd27 ct27), sl27⟩) (e27 : PySem.W.codeIn K cd27 "_law_words" = true) (k27 : PySem.W.keepIn K (.ref f27) = true)
    (a28 : PySem.W.nsIn K mainGlobals "_law_right" = some (some (.ref f28))) (l28 : K.lookup f28 = some ⟨oc28, od28, .func (PySem.W.fnOf "_law_right" "_law_right" (defArgs st__law_right) (defBody st__law_right) (defScope st__law_right) .none kV28 dc28 pm28 an28 cd28 ct28), sl28⟩) (e28 : PySem.W.codeIn K cd28 "_law_right" = true) (k28 : PySem.W.keepIn K (.ref f28) = true)
    (a29 : PySem.W.nsIn K mainGlobals "law" = some (some (.ref f29))) (l29 : K.lookup f29 = some ⟨oc29, od29, .func (PySem.W.fnOf "law" "law" (defArgs st_law) (defBody st_law) (defScope st_law) .none kV29 dc29 pm29 an29 cd29 ct29), sl29⟩) (e29 : PySem.W.codeIn K cd29 "law" = true) (k29 : PySem.W.keepIn K (.ref f29) = true)
    (n_MOST_LOTS : PySem.W.nsIn K mainGlobals "MOST_LOTS" = some (some (.int 12 t_MOST_LOTS)))
    (n_MOST_RAN : PySem.W.nsIn K mainGlobals "MOST_RAN" = some (some (.int 3 t_MOST_RAN)))
    (n_MOST_WASHES : PySem.W.nsIn K mainGlobals "MOST_WASHES" = some (some (.int 30 t_MOST_WASHES)))
    (n_NEVER : PySem.W.nsIn K mainGlobals "NEVER" = some (some (.str "never" t_NEVER)))
    (n_OPEN : PySem.W.nsIn K mainGlobals "OPEN" = some (some (.str "open" t_OPEN)))
    (n_PAIR : PySem.W.nsIn K mainGlobals "PAIR" = some (some (.int 2 t_PAIR)))
    (n_SURE : PySem.W.nsIn K mainGlobals "SURE" = some (some (.str "sure" t_SURE)))
    (z_len : PySem.W.nsIn K mainGlobals "len" = some none)
    (z_int : PySem.W.nsIn K mainGlobals "int" = some none)
    (z_abs : PySem.W.nsIn K mainGlobals "abs" = some none)
    (z_min : PySem.W.nsIn K mainGlobals "min" = some none)
    (z_max : PySem.W.nsIn K mainGlobals "max" = some none)
    (z_sum : PySem.W.nsIn K mainGlobals "sum" = some none)
    (z_any : PySem.W.nsIn K mainGlobals "any" = some none)
    (z_all : PySem.W.nsIn K mainGlobals "all" = some none)
    (z_list : PySem.W.nsIn K mainGlobals "list" = some none)
    (z_tuple : PySem.W.nsIn K mainGlobals "tuple" = some none)
    (z_sorted : PySem.W.nsIn K mainGlobals "sorted" = some none)
    (z_isinstance : PySem.W.nsIn K mainGlobals "isinstance" = some none)
    (z_repr : PySem.W.nsIn K mainGlobals "repr" = some none)
    (z_range : PySem.W.nsIn K mainGlobals "range" = some none)
    (z_enumerate : PySem.W.nsIn K mainGlobals "enumerate" = some none)
    (z_zip : PySem.W.nsIn K mainGlobals "zip" = some none)
    (z_set : PySem.W.nsIn K mainGlobals "set" = some none)
    (z_str : PySem.W.nsIn K mainGlobals "str" = some none)
    (z_bool : PySem.W.nsIn K mainGlobals "bool" = some none)
    (z_dict : PySem.W.nsIn K mainGlobals "dict" = some none) :
    ∃ fd : FuncData, (∀ (s : Shared) (v : Value), BindsTo s fd ⟨[v], []⟩ [("script", v)]) ∧ ∀ base : Heap, K.In base → base.Ns mainGlobals mg → FnG l.prog w K mg base 8 fa fd ["script"] (spM K g_law 1) := by
  have e := hfa.symm.trans (PySem.W.mg_of X G a29)
  cases e
  have B : Bl mg := ⟨PySem.W.mg_none_of X G z_len, PySem.W.mg_none_of X G z_int, PySem.W.mg_none_of X G z_abs, PySem.W.mg_none_of X G z_min, PySem.W.mg_none_of X G z_max, PySem.W.mg_none_of X G z_sum, PySem.W.mg_none_of X G z_any, PySem.W.mg_none_of X G z_all, PySem.W.mg_none_of X G z_list, PySem.W.mg_none_of X G z_tuple, PySem.W.mg_none_of X G z_sorted, PySem.W.mg_none_of X G z_isinstance, PySem.W.mg_none_of X G z_repr, PySem.W.mg_none_of X G z_range, PySem.W.mg_none_of X G z_enumerate, PySem.W.mg_none_of X G z_zip, PySem.W.mg_none_of X G z_set, PySem.W.mg_none_of X G z_str, PySem.W.mg_none_of X G z_bool, PySem.W.mg_none_of X G z_dict⟩
  have c_MOST_LOTS : CAt mg "MOST_LOTS" (.int 12) := ⟨_, (.int 12), PySem.W.mg_of X G n_MOST_LOTS, ⟨_, rfl⟩, fun _ _ _ _ => by simp only [RV]; try rfl⟩
  have c_MOST_RAN : CAt mg "MOST_RAN" (.int 3) := ⟨_, (.int 3), PySem.W.mg_of X G n_MOST_RAN, ⟨_, rfl⟩, fun _ _ _ _ => by simp only [RV]; try rfl⟩
  have c_MOST_WASHES : CAt mg "MOST_WASHES" (.int 30) := ⟨_, (.int 30), PySem.W.mg_of X G n_MOST_WASHES, ⟨_, rfl⟩, fun _ _ _ _ => by simp only [RV]; try rfl⟩
  have c_NEVER : CAt mg "NEVER" (.str [110, 101, 118, 101, 114]) := ⟨_, (.str "never"), PySem.W.mg_of X G n_NEVER, ⟨_, rfl⟩, fun _ _ _ _ => by simp only [RV]; try rfl⟩
  have c_OPEN : CAt mg "OPEN" (.str [111, 112, 101, 110]) := ⟨_, (.str "open"), PySem.W.mg_of X G n_OPEN, ⟨_, rfl⟩, fun _ _ _ _ => by simp only [RV]; try rfl⟩
  have c_PAIR : CAt mg "PAIR" (.int 2) := ⟨_, (.int 2), PySem.W.mg_of X G n_PAIR, ⟨_, rfl⟩, fun _ _ _ _ => by simp only [RV]; try rfl⟩
  have c_SURE : CAt mg "SURE" (.str [115, 117, 114, 101]) := ⟨_, (.str "sure"), PySem.W.mg_of X G n_SURE, ⟨_, rfl⟩, fun _ _ _ _ => by simp only [RV]; try rfl⟩
  have d_is_tuple : DefIn K mg "is_tuple" st_is_tuple ["value", "least", "most"] := ⟨⟨_, _, fun_mk l0 e0 k0, PySem.W.mg_of X G a0, (fun_mk (st := st_is_tuple) l0 e0 k0).binds fun _ _ _ _ _ _ us hl => match us, hl with | [_, _, _], _ => rfl⟩⟩
  have d_is_whole : DefIn K mg "is_whole" st_is_whole ["value"] := ⟨⟨_, _, fun_mk l1 e1 k1, PySem.W.mg_of X G a1, (fun_mk (st := st_is_whole) l1 e1 k1).binds fun _ _ _ _ _ _ us hl => match us, hl with | [_], _ => rfl⟩⟩
  have d_is_integer : DefIn K mg "is_integer" st_is_integer ["value", "low", "high"] := ⟨⟨_, _, fun_mk l2 e2 k2, PySem.W.mg_of X G a2, (fun_mk (st := st_is_integer) l2 e2 k2).binds fun _ _ _ _ _ _ us hl => match us, hl with | [_, _, _], _ => rfl⟩⟩
  have d_is_rising : DefIn K mg "is_rising" st_is_rising ["values"] := ⟨⟨_, _, fun_mk l3 e3 k3, PySem.W.mg_of X G a3, (fun_mk (st := st_is_rising) l3 e3 k3).binds fun _ _ _ _ _ _ us hl => match us, hl with | [_], _ => rfl⟩⟩
  have d_is_load : DefIn K mg "is_load" st_is_load ["many", "value"] := ⟨⟨_, _, fun_mk l4 e4 k4, PySem.W.mg_of X G a4, (fun_mk (st := st_is_load) l4 e4 k4).binds fun _ _ _ _ _ _ us hl => match us, hl with | [_, _], _ => rfl⟩⟩
  have d_is_wash : DefIn K mg "is_wash" st_is_wash ["many", "value"] := ⟨⟨_, _, fun_mk l5 e5 k5, PySem.W.mg_of X G a5, (fun_mk (st := st_is_wash) l5 e5 k5).binds fun _ _ _ _ _ _ us hl => match us, hl with | [_, _], _ => rfl⟩⟩
  have d_check_many : DefIn K mg "check_many" st_check_many ["value"] := ⟨⟨_, _, fun_mk l6 e6 k6, PySem.W.mg_of X G a6, (fun_mk (st := st_check_many) l6 e6 k6).binds fun _ _ _ _ _ _ us hl => match us, hl with | [_], _ => rfl⟩⟩
  have d_check_case : DefIn K mg "check_case" st_check_case ["many", "washes", "least", "most"] := ⟨⟨_, _, fun_mk l7 e7 k7, PySem.W.mg_of X G a7, (fun_mk (st := st_check_case) l7 e7 k7).binds fun _ _ _ _ _ _ us hl => match us, hl with | [_, _, _, _], _ => rfl⟩⟩
  have d_sets_of : DefIn K mg "sets_of" st_sets_of ["many", "least", "most"] := ⟨⟨_, _, fun_mk l8 e8 k8, PySem.W.mg_of X G a8, (fun_mk (st := st_sets_of) l8 e8 k8).binds fun _ _ _ _ _ _ us hl => match us, hl with | [_, _, _], _ => rfl⟩⟩
  have d_fits : DefIn K mg "fits" st_fits ["some", "wash"] := ⟨⟨_, _, fun_mk l9 e9 k9, PySem.W.mg_of X G a9, (fun_mk (st := st_fits) l9 e9 k9).binds fun _ _ _ _ _ _ us hl => match us, hl with | [_, _], _ => rfl⟩⟩
  have d_left_of : DefIn K mg "left_of" st_left_of ["many", "washes", "least", "most"] := ⟨⟨_, _, fun_mk l10 e10 k10, PySem.W.mg_of X G a10, (fun_mk (st := st_left_of) l10 e10 k10).binds fun _ _ _ _ _ _ us hl => match us, hl with | [_, _, _, _], _ => rfl⟩⟩
  have d_may_have : DefIn K mg "may_have" st_may_have ["many", "washes", "least", "most"] := ⟨⟨_, _, fun_mk l11 e11 k11, PySem.W.mg_of X G a11, (fun_mk (st := st_may_have) l11 e11 k11).binds fun _ _ _ _ _ _ us hl => match us, hl with | [_, _, _, _], _ => rfl⟩⟩
  have d_words_of : DefIn K mg "words_of" st_words_of ["many", "some"] := ⟨⟨_, _, fun_mk l12 e12 k12, PySem.W.mg_of X G a12, (fun_mk (st := st_words_of) l12 e12 k12).binds fun _ _ _ _ _ _ us hl => match us, hl with | [_, _], _ => rfl⟩⟩
  have d_told : DefIn K mg "told" st_told ["many", "washes", "least", "most"] := ⟨⟨_, _, fun_mk l13 e13 k13, PySem.W.mg_of X G a13, (fun_mk (st := st_told) l13 e13 k13).binds fun _ _ _ _ _ _ us hl => match us, hl with | [_, _, _, _], _ => rfl⟩⟩
  have d_first_wrong : DefIn K mg "first_wrong" st_first_wrong ["many", "washes", "least", "most"] := ⟨⟨_, _, fun_mk l14 e14 k14, PySem.W.mg_of X G a14, (fun_mk (st := st_first_wrong) l14 e14 k14).binds fun _ _ _ _ _ _ us hl => match us, hl with | [_, _, _, _], _ => rfl⟩⟩
  have d_next_load : DefIn K mg "next_load" st_next_load ["many", "washes", "least", "most"] := ⟨⟨_, _, fun_mk l15 e15 k15, PySem.W.mg_of X G a15, (fun_mk (st := st_next_load) l15 e15 k15).binds fun _ _ _ _ _ _ us hl => match us, hl with | [_, _, _, _], _ => rfl⟩⟩
  have d__law_pot : DefIn K mg "_law_pot" st__law_pot ["script", "place"] := ⟨⟨_, _, fun_mk l16 e16 k16, PySem.W.mg_of X G a16, (fun_mk (st := st__law_pot) l16 e16 k16).binds fun _ _ _ _ _ _ us hl => match us, hl with | [_, _], _ => rfl⟩⟩
  have d__law_take : DefIn K mg "_law_take" st__law_take ["pot", "upto"] := ⟨⟨_, _, fun_mk l17 e17 k17, PySem.W.mg_of X G a17, (fun_mk (st := st__law_take) l17 e17 k17).binds fun _ _ _ _ _ _ us hl => match us, hl with | [_, _], _ => rfl⟩⟩
  have d__law_cells : DefIn K mg "_law_cells" st__law_cells ["script", "most"] := ⟨⟨_, _, fun_mk l18 e18 k18, PySem.W.mg_of X G a18, (fun_mk (st := st__law_cells) l18 e18 k18).binds fun _ _ _ _ _ _ us hl => match us, hl with | [_, _], _ => rfl⟩⟩
  have d__law_some : DefIn K mg "_law_some" st__law_some ["pot", "pool", "many"] := ⟨⟨_, _, fun_mk l19 e19 k19, PySem.W.mg_of X G a19, (fun_mk (st := st__law_some) l19 e19 k19).binds fun _ _ _ _ _ _ us hl => match us, hl with | [_, _, _], _ => rfl⟩⟩
  have d__law_merged : DefIn K mg "_law_merged" st__law_merged ["pot", "one", "other"] := ⟨⟨_, _, fun_mk l20 e20 k20, PySem.W.mg_of X G a20, (fun_mk (st := st__law_merged) l20 e20 k20).binds fun _ _ _ _ _ _ us hl => match us, hl with | [_, _, _], _ => rfl⟩⟩
  have d__law_beside : DefIn K mg "_law_beside" st__law_beside ["pot", "one", "other"] := ⟨⟨_, _, fun_mk l21 e21 k21, PySem.W.mg_of X G a21, (fun_mk (st := st__law_beside) l21 e21 k21).binds fun _ _ _ _ _ _ us hl => match us, hl with | [_, _, _], _ => rfl⟩⟩
  have d__law_put : DefIn K mg "_law_put" st__law_put ["order", "hall", "lot"] := ⟨⟨_, _, fun_mk l22 e22 k22, PySem.W.mg_of X G a22, (fun_mk (st := st__law_put) l22 e22 k22).binds fun _ _ _ _ _ _ us hl => match us, hl with | [_, _, _], _ => rfl⟩⟩
  have d__law_washes : DefIn K mg "_law_washes" st__law_washes ["pot", "many", "is_wrong"] := ⟨⟨_, _, fun_mk l23 e23 k23, PySem.W.mg_of X G a23, (fun_mk (st := st__law_washes) l23 e23 k23).binds fun _ _ _ _ _ _ us hl => match us, hl with | [_, _, _], _ => rfl⟩⟩
  have d__law_sets : DefIn K mg "_law_sets" st__law_sets ["many", "most"] := ⟨⟨_, _, fun_mk l24 e24 k24, PySem.W.mg_of X G a24, (fun_mk (st := st__law_sets) l24 e24 k24).binds fun _ _ _ _ _ _ us hl => match us, hl with | [_, _], _ => rfl⟩⟩
  have d__law_may : DefIn K mg "_law_may" st__law_may ["many", "washes"] := ⟨⟨_, _, fun_mk l25 e25 k25, PySem.W.mg_of X G a25, (fun_mk (st := st__law_may) l25 e25 k25).binds fun _ _ _ _ _ _ us hl => match us, hl with | [_, _], _ => rfl⟩⟩
  have d__law_both : DefIn K mg "_law_both" st__law_both ["order", "mays", "least", "most"] := ⟨⟨_, _, fun_mk l26 e26 k26, PySem.W.mg_of X G a26, (fun_mk (st := st__law_both) l26 e26 k26).binds fun _ _ _ _ _ _ us hl => match us, hl with | [_, _, _, _], _ => rfl⟩⟩
  have d__law_words : DefIn K mg "_law_words" st__law_words ["many", "some"] := ⟨⟨_, _, fun_mk l27 e27 k27, PySem.W.mg_of X G a27, (fun_mk (st := st__law_words) l27 e27 k27).binds fun _ _ _ _ _ _ us hl => match us, hl with | [_, _], _ => rfl⟩⟩
  have d__law_right : DefIn K mg "_law_right" st__law_right ["pot"] := ⟨⟨_, _, fun_mk l28 e28 k28, PySem.W.mg_of X G a28, (fun_mk (st := st__law_right) l28 e28 k28).binds fun _ _ _ _ _ _ us hl => match us, hl with | [_], _ => rfl⟩⟩
  have FL := fun_mk (st := st_law) l29 e29 k29
  refine ⟨PySem.W.fnOf "law" "law" (defArgs st_law) (defBody st_law) (defScope st_law) .none kV29 dc29 pm29 an29 cd29 ct29, fun s v => .of_eq rfl, fun base _ _ => ?_⟩
  have h_is_tuple : Has l.prog w K mg base 1 "is_tuple" 3 g_is_tuple := (has_is_tuple (k := 0) B   d_is_tuple)
  have h_is_whole : Has l.prog w K mg base 1 "is_whole" 1 g_is_whole := (has_is_whole (k := 0) B   d_is_whole)
  have h_is_integer : Has l.prog w K mg base 2 "is_integer" 3 g_is_integer := (has_is_integer (k := 1) B  (h_is_whole.mono (by decide)) d_is_integer)
  have h_is_rising : Has l.prog w K mg base 1 "is_rising" 1 g_is_rising := (has_is_rising (k := 0) B   d_is_rising)
  have h_is_load : Has l.prog w K mg base 3 "is_load" 2 g_is_load := (has_is_load (k := 2) B  (h_is_integer.mono (by decide)) (h_is_rising.mono (by decide)) (h_is_tuple.mono (by decide)) d_is_load)
  have h_is_wash : Has l.prog w K mg base 4 "is_wash" 2 g_is_wash := (has_is_wash (k := 3) B c_PAIR (h_is_load.mono (by decide)) (h_is_tuple.mono (by decide)) d_is_wash)
  have h_check_many : Has l.prog w K mg base 3 "check_many" 1 g_check_many := (has_check_many (k := 2) B c_MOST_LOTS (h_is_integer.mono (by decide)) d_check_many)
  have h_check_case : Has l.prog w K mg base 5 "check_case" 4 g_check_case := (has_check_case (k := 4) B c_MOST_RAN c_MOST_WASHES (h_check_many.mono (by decide)) (h_is_integer.mono (by decide)) (h_is_tuple.mono (by decide)) (h_is_wash.mono (by decide)) d_check_case)
  have h_sets_of : Has l.prog w K mg base 1 "sets_of" 3 g_sets_of := (has_sets_of (k := 0) B   d_sets_of)
  have h_fits : Has l.prog w K mg base 1 "fits" 2 g_fits := (has_fits (k := 0) B   d_fits)
  have h_left_of : Has l.prog w K mg base 2 "left_of" 4 g_left_of := (has_left_of (k := 1) B  (h_fits.mono (by decide)) (h_sets_of.mono (by decide)) d_left_of)
  have h_may_have : Has l.prog w K mg base 6 "may_have" 4 g_may_have := (has_may_have (k := 5) B  (h_check_case.mono (by decide)) (h_left_of.mono (by decide)) d_may_have)
  have h_words_of : Has l.prog w K mg base 1 "words_of" 2 g_words_of := (has_words_of (k := 0) B c_NEVER c_OPEN c_SURE  d_words_of)
  have h_told : Has l.prog w K mg base 6 "told" 4 g_told := (has_told (k := 5) B  (h_check_case.mono (by decide)) (h_left_of.mono (by decide)) (h_words_of.mono (by decide)) d_told)
  have h_first_wrong : Has l.prog w K mg base 6 "first_wrong" 4 g_first_wrong := (has_first_wrong (k := 5) B  (h_check_case.mono (by decide)) (h_fits.mono (by decide)) (h_sets_of.mono (by decide)) d_first_wrong)
  have h_next_load : Has l.prog w K mg base 6 "next_load" 4 g_next_load := (has_next_load (k := 5) B  (h_check_case.mono (by decide)) (h_left_of.mono (by decide)) (h_sets_of.mono (by decide)) d_next_load)
  have h__law_pot : Has l.prog w K mg base 1 "_law_pot" 2 potG := (has_pot makes_pot (has0__law_pot (k := 0) B   d__law_pot))
  have h__law_take : Has l.prog w K mg base 1 "_law_take" 2 g__law_take := (has__law_take (k := 0) B   d__law_take)
  have h__law_cells : Has l.prog w K mg base 1 "_law_cells" 2 g__law_cells := (has__law_cells (k := 0) B   d__law_cells)
  have h__law_some : Has l.prog w K mg base 2 "_law_some" 3 g__law_some := (has__law_some (k := 1) B  (h__law_take.mono (by decide)) d__law_some)
  have h__law_merged : Has l.prog w K mg base 2 "_law_merged" 3 g__law_merged := (has__law_merged (k := 1) B  (h__law_take.mono (by decide)) d__law_merged)
  have h__law_beside : Has l.prog w K mg base 3 "_law_beside" 3 g__law_beside := (has__law_beside (k := 2) B  (h__law_merged.mono (by decide)) d__law_beside)
  have h__law_put : Has l.prog w K mg base 1 "_law_put" 3 g__law_put := (has__law_put (k := 0) B   d__law_put)
  have h__law_washes : Has l.prog w K mg base 3 "_law_washes" 3 g__law_washes := (has__law_washes (k := 2) B  (h__law_some.mono (by decide)) (h__law_take.mono (by decide)) d__law_washes)
  have h__law_sets : Has l.prog w K mg base 1 "_law_sets" 2 g__law_sets := (has__law_sets (k := 0) B   d__law_sets)
  have h__law_may : Has l.prog w K mg base 2 "_law_may" 2 g__law_may := (has__law_may (k := 1) B  (h__law_sets.mono (by decide)) d__law_may)
  have h__law_both : Has l.prog w K mg base 2 "_law_both" 4 g__law_both := (has__law_both (k := 1) B  (h__law_put.mono (by decide)) d__law_both)
  have h__law_words : Has l.prog w K mg base 1 "_law_words" 2 g__law_words := (has__law_words (k := 0) B   d__law_words)
  have h__law_right : Has l.prog w K mg base 7 "_law_right" 1 g__law_right := (has__law_right (k := 6) B  (h__law_beside.mono (by decide)) (h__law_both.mono (by decide)) (h__law_may.mono (by decide)) (h__law_put.mono (by decide)) (h__law_some.mono (by decide)) (h__law_take.mono (by decide)) (h__law_washes.mono (by decide)) (h__law_words.mono (by decide)) (h_first_wrong.mono (by decide)) (h_may_have.mono (by decide)) (h_next_load.mono (by decide)) (h_told.mono (by decide)) d__law_right)
  exact fn_law B  (h__law_cells.mono (by decide)) (h__law_pot.mono (by decide)) (h__law_right.mono (by decide)) FL
end Mi.K17
open PySem PySem.W PyProof.Rows
set_option maxHeartbeats 0 in
theorem PySem.Challenge.cw_drybytheirhour_k17_whole_washes_of_two_h_holds : PySem.Challenge.rw_drybytheirhour_k17_whole_washes_of_two_h.Holds := by
  w_on; o_law; k_head; (case hw => w_witness2)
  k_fill
  refine Mi.walkM (l := PySem.Challenge.rw_drybytheirhour_k17_whole_washes_of_two_h) (n := 63) (k := 8) (x := "script") (g := Mi.K17.g_law) rfl (by decide) rfl ⟨rfl, by decide, by decide⟩ (fun w h Y => PySem.W.kIn_of Y) ?F (fun ns h => Mi.K17.law_true ns h)
  case F =>
    intro w mg fa h KX G hmg
    refine' Mi.K17.all_mk KX G hmg ?a0 ?l0 ?e0 ?k0 ?a1 ?l1 ?e1 ?k1 ?a2 ?l2 ?e2 ?k2 ?a3 ?l3 ?e3 ?k3 ?a4 ?l4 ?e4 ?k4 ?a5 ?l5 ?e5 ?k5 ?a6 ?l6 ?e6 ?k6 ?a7 ?l7 ?e7 ?k7 ?a8 ?l8 ?e8 ?k8 ?a9 ?l9 ?e9 ?k9 ?a10 ?l10 ?e10 ?k10 ?a11 ?l11 ?e11 ?k11 ?a12 ?l12 ?e12 ?k12 ?a13 ?l13 ?e13 ?k13 ?a14 ?l14 ?e14 ?k14 ?a15 ?l15 ?e15 ?k15 ?a16 ?l16 ?e16 ?k16 ?a17 ?l17 ?e17 ?k17 ?a18 ?l18 ?e18 ?k18 ?a19 ?l19 ?e19 ?k19 ?a20 ?l20 ?e20 ?k20 ?a21 ?l21 ?e21 ?k21 ?a22 ?l22 ?e22 ?k22 ?a23 ?l23 ?e23 ?k23 ?a24 ?l24 ?e24 ?k24 ?a25 ?l25 ?e25 ?k25 ?a26 ?l26 ?e26 ?k26 ?a27 ?l27 ?e27 ?k27 ?a28 ?l28 ?e28 ?k28 ?a29 ?l29 ?e29 ?k29 ?n_MOST_LOTS ?n_MOST_RAN ?n_MOST_WASHES ?n_NEVER ?n_OPEN ?n_PAIR ?n_SURE ?z_len ?z_int ?z_abs ?z_min ?z_max ?z_sum ?z_any ?z_all ?z_list ?z_tuple ?z_sorted ?z_isinstance ?z_repr ?z_range ?z_enumerate ?z_zip ?z_set ?z_str ?z_bool ?z_dict
    (case a0 => k_is); (case l0 => k_is); (case e0 => k_is); (case k0 => k_is); (case a1 => k_is); (case l1 => k_is); (case e1 => k_is); (case k1 => k_is); (case a2 => k_is); (case l2 => k_is); (case e2 => k_is); (case k2 => k_is); (case a3 => k_is); (case l3 => k_is); (case e3 => k_is); (case k3 => k_is); (case a4 => k_is); (case l4 => k_is); (case e4 => k_is); (case k4 => k_is); (case a5 => k_is); (case l5 => k_is); (case e5 => k_is); (case k5 => k_is); (case a6 => k_is); (case l6 => k_is); (case e6 => k_is); (case k6 => k_is); (case a7 => k_is); (case l7 => k_is); (case e7 => k_is); (case k7 => k_is); (case a8 => k_is); (case l8 => k_is); (case e8 => k_is); (case k8 => k_is); (case a9 => k_is); (case l9 => k_is); (case e9 => k_is); (case k9 => k_is); (case a10 => k_is); (case l10 => k_is); (case e10 => k_is); (case k10 => k_is); (case a11 => k_is); (case l11 => k_is); (case e11 => k_is); (case k11 => k_is); (case a12 => k_is); (case l12 => k_is); (case e12 => k_is); (case k12 => k_is); (case a13 => k_is); (case l13 => k_is); (case e13 => k_is); (case k13 => k_is); (case a14 => k_is); (case l14 => k_is); (case e14 => k_is); (case k14 => k_is); (case a15 => k_is); (case l15 => k_is); (case e15 => k_is); (case k15 => k_is); (case a16 => k_is); (case l16 => k_is); (case e16 => k_is); (case k16 => k_is); (case a17 => k_is); (case l17 => k_is); (case e17 => k_is); (case k17 => k_is); (case a18 => k_is); (case l18 => k_is); (case e18 => k_is); (case k18 => k_is); (case a19 => k_is); (case l19 => k_is); (case e19 => k_is); (case k19 => k_is); (case a20 => k_is); (case l20 => k_is); (case e20 => k_is); (case k20 => k_is); (case a21 => k_is); (case l21 => k_is); (case e21 => k_is); (case k21 => k_is); (case a22 => k_is); (case l22 => k_is); (case e22 => k_is); (case k22 => k_is); (case a23 => k_is); (case l23 => k_is); (case e23 => k_is); (case k23 => k_is); (case a24 => k_is); (case l24 => k_is); (case e24 => k_is); (case k24 => k_is); (case a25 => k_is); (case l25 => k_is); (case e25 => k_is); (case k25 => k_is); (case a26 => k_is); (case l26 => k_is); (case e26 => k_is); (case k26 => k_is); (case a27 => k_is); (case l27 => k_is); (case e27 => k_is); (case k27 => k_is); (case a28 => k_is); (case l28 => k_is); (case e28 => k_is); (case k28 => k_is); (case a29 => k_is); (case l29 => k_is); (case e29 => k_is); (case k29 => k_is); (case n_MOST_LOTS => k_is); (case n_MOST_RAN => k_is); (case n_MOST_WASHES => k_is); (case n_NEVER => k_is); (case n_OPEN => k_is); (case n_PAIR => k_is); (case n_SURE => k_is); (case z_len => k_is); (case z_int => k_is); (case z_abs => k_is); (case z_min => k_is); (case z_max => k_is); (case z_sum => k_is); (case z_any => k_is); (case z_all => k_is); (case z_list => k_is); (case z_tuple => k_is); (case z_sorted => k_is); (case z_isinstance => k_is); (case z_repr => k_is); (case z_range => k_is); (case z_enumerate => k_is); (case z_zip => k_is); (case z_set => k_is); (case z_str => k_is); (case z_bool => k_is); (case z_dict => k_is)
