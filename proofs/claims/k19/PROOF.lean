import PyProof.Rows.All
import Wide.All
import OpenK.AllK
import Wide.FinOn
import HandS.ForMost
import HandS.Style
import HandS.TryOnly
import HandS.TupLe
import HandS.TupAny
import HandS.Wide
import HandS.IsInst
import HandS.Conv
import KE.DataAny
import PyProof.Rows.SumAny
import HandS.SortOrd
import KE.SortLaws
import HandS.Ends
import HandS.Zip
import KE.GoesMore
import KE.GoesZip
import PyProof.Rows.EnumRows
import KE.DatumIndex
import HandS.FStrTup
import PyProof.ReprRoads
import HandS.Star
import HandS.SetFor
import PySem.Challenge.RW_drybytheirhour_k19_whole_jobs_of_two_shi
set_option Elab.async false
set_option linter.all false
set_option maxRecDepth 100000
namespace Mi
open PySem PySem.Spec PyProof.Rows L2

/-! ### data -/
inductive D where
  | non
  | bl (b : Bool)
  | int (i : Int)
  | str (s : List Nat)
  | tup (l : List D)
  | lst (l : List D)
  | dic (l : List (D × D))
  | pot
  | scr (l : List Int)
  | rep (d : D)

/-- a computation that draws -/
inductive T (α : Type) where
  | ret (a : α)
  | draw (k : Nat) (f : Nat → T α)
  | fail
def T.bind {α β : Type} : T α → (α → T β) → T β
  | .ret a, g => g a
  | .draw k f, g => .draw k fun d => (f d).bind g
  | .fail, _ => .fail
def T.ok {α : Type} : T α → Nat → (Nat → α → Prop) → Prop
  | .ret a, N, Q => Q N a
  | .draw k f, N, Q => match N with
    | 0 => False
    | N + 1 => ∀ d, d < k → (f d).ok N Q
  | .fail, _, _ => False
theorem T.ok_mono {α : Type} {Q Q' : Nat → α → Prop} (h : ∀ N a, Q N a → Q' N a) : ∀ {t : T α} {N : Nat}, t.ok N Q → t.ok N Q'
  | .ret a, N, q => h N a q
  | .draw k f, 0, q => q.elim
  | .draw k f, N + 1, q => fun d hd => T.ok_mono h (q d hd)
  | .fail, _, q => q.elim
theorem T.ok_bind {α β : Type} {g : α → T β} {Q : Nat → β → Prop} : ∀ {t : T α} {N : Nat}, (t.bind g).ok N Q → t.ok N fun N' a => (g a).ok N' Q
  | .ret a, N, q => q
  | .draw k f, 0, q => q.elim
  | .draw k f, N + 1, q => fun d hd => T.ok_bind (q d hd)
  | .fail, _, q => q.elim
theorem T.bind_ok {α β : Type} {g : α → T β} {Q : Nat → β → Prop} : ∀ {t : T α} {N : Nat}, (t.ok N fun N' a => (g a).ok N' Q) → (t.bind g).ok N Q
  | .ret a, N, q => q
  | .draw k f, 0, q => q.elim
  | .draw k f, N + 1, q => fun d hd => T.bind_ok (q d hd)
  | .fail, _, q => q.elim
@[simp] theorem T.ret_bind {α β : Type} (a : α) (g : α → T β) : (T.ret a).bind g = g a := rfl
@[simp] theorem T.fail_bind {α β : Type} (g : α → T β) : (T.fail : T α).bind g = .fail := rfl
def T.ofO {α : Type} : Option α → T α
  | some a => .ret a
  | none => .fail

abbrev Slot := Option (Bool × D)
abbrev Ev := List Slot
/-- what an expression hands on: a value that no one changes any more; the list in a slot; a list just made -/
inductive Hd where
  | val (d : D)
  | slot (i : Nat)
  | tmp (d : D)
abbrev M := Ev → T (Hd × Ev)
abbrev MT := Ev → T (Bool × Ev)
abbrev MA := Ev → T (List D × Ev)
inductive Fl where
  | nx | bk | ct
  | rt (d : D)
abbrev MS := Ev → T (Fl × Ev)

def rs (e : Ev) : Hd → Option D
  | .val d => some d
  | .tmp d => some d
  | .slot i => match e[i]? with
    | some (some (_, d)) => some d
    | _ => none
/-- as a value -/
def fz (e : Ev) : Hd → Option (D × Ev)
  | .val d => some (d, e)
  | .tmp d => some (d, e)
  | .slot i => match e[i]? with
    | some (some (_, d)) => some (d, e.set i (some (false, d)))
    | _ => none

/-! ### how data lies in the heap -/
/-- the script's own list -/
def ScrAt (K : PySem.W.Frag) (H : Hp) (a : Addr) (ns : List Int) : Prop :=
  (∃ o, H a = some (.frz o (.lst (ns.map V.int)))) ∨
    ∃ (o : Obj) (its : Array Value) (n : Nat), K.lookup a = some o ∧ o.cls = .type "list" ∧ o.dict = none ∧ o.data = .seq its n ∧ its.size ≤ sizeLine ∧ Vals (ns.map V.int) its.toList
theorem ScrAt.seq {K : PySem.W.Frag} {H : Hp} {a : Addr} {ns : List Int} (h : ScrAt K H a ns) : SqL K H a (ns.map V.int) := by
  rcases h with ⟨o, h⟩ | h
  · exact .inl (.inr ⟨o, h⟩)
  · exact .inr h
section
variable (K : PySem.W.Frag) (F P : Addr → Prop) (H : Hp)
mutual
def RV : D → V → Prop
  | .non, v => v = .non
  | .bl b, v => v = .bl b
  | .int i, v => v = .int i
  | .str s, v => v = .str ⟨s.toArray⟩
  | .tup ds, v => ∃ a vs, v = .ref a ∧ H a = some (.tup vs) ∧ RVs ds vs
  | .lst ds, v => ∃ a vs, v = .ref a ∧ F a ∧ H a = some (.lst vs) ∧ RVs ds vs
  | .dic _, _ => False
  | .pot, v => ∃ a, v = .ref a ∧ P a
  | .scr ns, v => ∃ a, v = .ref a ∧ ScrAt K H a ns
  | .rep _, _ => False
def RVs : List D → List V → Prop
  | [], vs => vs = []
  | d :: ds, vs => ∃ v vr, vs = v :: vr ∧ RV d v ∧ RVs ds vr
end
/-- what a slot (or a fresh temporary) owns -/
def Own (a : Addr) : D → Prop
  | .lst ds => ∃ vs, H a = some (.lst vs) ∧ RVs K F P H ds vs
  | _ => False
/-- content, at the top of unknown owner -/
def RC (d : D) (v : V) : Prop := RV K F P H d v ∨ ∃ a, v = .ref a ∧ Own K F P H a d
end

/-- the limit of draws -/
def LIM : Nat := 2 ^ 100000
def PotOk (N : Nat) (o : Option HO) : Prop :=
  ∃ x y c : Int, o = some (.lst [.int x, .int y, .int c]) ∧ 0 ≤ x ∧ x < 10 ^ 300 ∧ 0 ≤ y ∧ y < 2305843009213693952 ∧ 0 ≤ c ∧ c + N ≤ LIM

/-- a frame: the heap, the frozen, the pots at its entry -/
structure Fr where
  H0 : Hp
  F0 : Addr → Prop
  P0 : Addr → Prop

def Owned (env : Ev) (σ : L2.St) (a : Addr) : Prop := ∃ (i : Nat) (d : D), env[i]? = some (some (true, d)) ∧ σ[i]? = some (some (V.ref a))

structure StR (K : PySem.W.Frag) (Z : Fr) (N : Nat) (F P : Addr → Prop) (env : Ev) (σ : L2.St) (H : Hp) : Prop where
  len : env.length = σ.length
  fz : ∀ (i : Nat) d, env[i]? = some (some (false, d)) → ∃ v, σ[i]? = some (some v) ∧ RV K F P H d v
  ow : ∀ (i : Nat) d, env[i]? = some (some (true, d)) → ∃ a, σ[i]? = some (some (.ref a)) ∧ Own K F P H a d ∧ ¬ F a ∧ ¬ P a ∧ Z.H0 a = none
  inj : ∀ (i j : Nat) d d', env[i]? = some (some (true, d)) → env[j]? = some (some (true, d')) → σ[i]? = σ[j]? → i = j
  same : ∀ b o, Z.H0 b = some o → ¬ P b → H b = some o
  frF : ∀ a, F a → Z.F0 a ∨ Z.H0 a = none
  frP : ∀ a, P a → Z.P0 a ∨ Z.H0 a = none
  subF : ∀ a, Z.F0 a → F a
  subP : ∀ a, Z.P0 a → P a
  trF : ∀ a, F a → ∃ o, H a = some o
  pot : ∀ a, P a → PotOk N (H a)
  dis : ∀ a, F a → ¬ P a
  nle : N ≤ LIM

/-- what an expression leaves -/
structure Ext (σ : L2.St) (env : Ev) (F P : Addr → Prop) (H : Hp) (env' : Ev) (F' P' : Addr → Prop) (H' : Hp) : Prop where
  fF : ∀ a, F a → F' a
  pP : ∀ a, P a → P' a
  own : ∀ a, Owned env' σ a → Owned env σ a
  slot : ∀ (i : Nat) fl d, env[i]? = some (some (fl, d)) → ∃ fl' d', env'[i]? = some (some (fl', d'))
  keep : ∀ b o, H b = some o → ¬ P b → ¬ Owned env σ b → H' b = some o
  newF : ∀ a, F' a → F a ∨ H a = none ∨ Owned env σ a
  newP : ∀ a, P' a → P a ∨ H a = none
  trk : ∀ b, H b ≠ none → H' b ≠ none

def RH (K : PySem.W.Frag) (Z : Fr) (F P : Addr → Prop) (env : Ev) (σ : L2.St) (H : Hp) : Hd → V → Prop
  | .val d, v => RV K F P H d v
  | .tmp d, v => ∃ a, v = .ref a ∧ Own K F P H a d ∧ ¬ F a ∧ ¬ P a ∧ ¬ Owned env σ a ∧ Z.H0 a = none
  | .slot i, v => σ[i]? = some (some v) ∧ ∃ fl d, env[i]? = some (some (fl, d))
/-- a temporary is younger than the expression's start -/
def Young (H : Hp) : Hd → V → Prop
  | .tmp _, v => ∃ a, v = .ref a ∧ H a = none
  | _, _ => True

structure Mon (K : PySem.W.Frag) (F P : Addr → Prop) (H : Hp) (F' P' : Addr → Prop) (H' : Hp) : Prop where
  fF : ∀ a, F a → F' a
  pP : ∀ a, P a → P' a
  tup : ∀ a xs, H a = some (.tup xs) → H' a = some (.tup xs)
  lst : ∀ a xs, F a → H a = some (.lst xs) → H' a = some (.lst xs)
  frz : ∀ a o u, H a = some (.frz o u) → H' a = some (.frz o u)

section
variable (K : PySem.W.Frag) (Z : Fr)
def tM (m : M) : TE := fun σ H Q => ∃ N F P env, StR K Z N F P env σ H ∧ (m env).ok N fun N' r =>
  ∀ v H' F' P', Ext σ env F P H r.2 F' P' H' → StR K Z N' F' P' r.2 σ H' → RH K Z F' P' r.2 σ H' r.1 v → Young H r.1 v → Q v H'
def tT (m : MT) : TT := fun σ H Q => ∃ N F P env, StR K Z N F P env σ H ∧ (m env).ok N fun N' r =>
  ∀ H' F' P', Ext σ env F P H r.2 F' P' H' → StR K Z N' F' P' r.2 σ H' → Q r.1 H'
def tA (m : MA) : TA := fun σ H Q => ∃ N F P env, StR K Z N F P env σ H ∧ (m env).ok N fun N' r =>
  ∀ vs H' F' P', Ext σ env F P H r.2 F' P' H' → StR K Z N' F' P' r.2 σ H' → RVs K F' P' H' r.1 vs → Q vs H'
def EndsM (D : Ends) (N : Nat) (F P : Addr → Prop) (σ : L2.St) (H : Hp) : Fl → Prop
  | .nx => D.nx σ H
  | .bk => D.bk σ H
  | .ct => D.ct σ H
  | .rt d => ∀ v, RV K F P H d v → D.rt v H
def sM (m : MS) : TS := fun D σ H => ∃ N F P env, StR K Z N F P env σ H ∧ (m env).ok N fun N' r =>
  ∀ σ' H' F' P', Mon K F P H F' P' H' → StR K Z N' F' P' r.2 σ' H' → EndsM K D N' F' P' σ' H' r.1
end
end Mi
set_option Elab.async false
set_option linter.all false
set_option maxRecDepth 100000
set_option maxHeartbeats 1000000
namespace Mi
open PySem PySem.Spec PyProof.Rows L2

section
variable {K : PySem.W.Frag} {F P F' P' F'' P'' : Addr → Prop} {H H' H'' : Hp}

mutual
theorem RV.mono (m : Mon K F P H F' P' H') : ∀ (d : D) (v : V), RV K F P H d v → RV K F' P' H' d v
  | .non, v, h => by simp only [RV] at h ⊢; exact h
  | .bl b, v, h => by simp only [RV] at h ⊢; exact h
  | .int i, v, h => by simp only [RV] at h ⊢; exact h
  | .str s, v, h => by simp only [RV] at h ⊢; exact h
  | .tup ds, v, h => by
    simp only [RV] at h ⊢
    obtain ⟨a, vs, e, q, r⟩ := h
    exact ⟨a, vs, e, m.tup a vs q, RVs.mono m ds vs r⟩
  | .lst ds, v, h => by
    simp only [RV] at h ⊢
    obtain ⟨a, vs, e, f, q, r⟩ := h
    exact ⟨a, vs, e, m.fF a f, m.lst a vs f q, RVs.mono m ds vs r⟩
  | .dic _, v, h => by simp only [RV] at h
  | .pot, v, h => by
    simp only [RV] at h ⊢
    obtain ⟨a, e, p⟩ := h
    exact ⟨a, e, m.pP a p⟩
  | .scr ns, v, h => by
    simp only [RV] at h ⊢
    obtain ⟨a, e, q⟩ := h
    refine ⟨a, e, ?_⟩
    rcases q with ⟨o, q⟩ | q
    · exact .inl ⟨o, m.frz a o _ q⟩
    · exact .inr q
  | .rep _, v, h => by simp only [RV] at h
theorem RVs.mono (m : Mon K F P H F' P' H') : ∀ (ds : List D) (vs : List V), RVs K F P H ds vs → RVs K F' P' H' ds vs
  | [], vs, h => by simp only [RVs] at h ⊢; exact h
  | d :: ds, vs, h => by
    simp only [RVs] at h ⊢
    obtain ⟨v, vr, e, q, r⟩ := h
    exact ⟨v, vr, e, RV.mono m d v q, RVs.mono m ds vr r⟩
end
theorem RVs.length : ∀ {ds : List D} {vs : List V}, RVs K F P H ds vs → vs.length = ds.length
  | [], vs, h => by simp only [RVs] at h; subst h; rfl
  | d :: ds, vs, h => by
    simp only [RVs] at h
    obtain ⟨v, vr, e, q, r⟩ := h
    subst e
    simp [RVs.length r]
theorem RVs.get : ∀ {ds : List D} {vs : List V} {i : Nat} {d : D}, RVs K F P H ds vs → ds[i]? = some d → ∃ v, vs[i]? = some v ∧ RV K F P H d v
  | [], vs, i, d, h, e => by simp at e
  | d :: ds, vs, 0, d', h, e => by
    simp only [RVs] at h
    obtain ⟨v, vr, e1, q, r⟩ := h
    subst e1
    simp at e; subst e
    exact ⟨v, rfl, q⟩
  | d :: ds, vs, i + 1, d', h, e => by
    simp only [RVs] at h
    obtain ⟨v, vr, e1, q, r⟩ := h
    subst e1
    obtain ⟨v', e2, q2⟩ := RVs.get (i := i) r (by simpa using e)
    exact ⟨v', by simpa using e2, q2⟩
theorem RVs.get' : ∀ {ds : List D} {vs : List V} {i : Nat} {v : V}, RVs K F P H ds vs → vs[i]? = some v → ∃ d, ds[i]? = some d ∧ RV K F P H d v := fun {ds vs i v} h e => by
  have hl := h.length
  have hi : i < ds.length := by
    rw [← hl]; exact (List.getElem?_eq_some_iff.mp e).1
  obtain ⟨v', e', q⟩ := h.get (List.getElem?_eq_getElem hi)
  rw [e] at e'; cases e'
  exact ⟨_, List.getElem?_eq_getElem hi, q⟩
theorem RVs.append : ∀ {ds : List D} {vs : List V} {es : List D} {ws : List V}, RVs K F P H ds vs → RVs K F P H es ws → RVs K F P H (ds ++ es) (vs ++ ws)
  | [], vs, es, ws, h, h' => by simp only [RVs] at h; subst h; exact h'
  | d :: ds, vs, es, ws, h, h' => by
    simp only [RVs] at h
    obtain ⟨v, vr, e1, q, r⟩ := h
    subst e1
    show RVs K F P H (d :: (ds ++ es)) (v :: (vr ++ ws))
    simp only [RVs]
    exact ⟨v, _, rfl, q, RVs.append r h'⟩
theorem RVs.nil : RVs K F P H [] [] := by simp only [RVs]
theorem RVs.cons {d : D} {v : V} {ds : List D} {vs : List V} (h : RV K F P H d v) (h' : RVs K F P H ds vs) : RVs K F P H (d :: ds) (v :: vs) := by
  simp only [RVs]; exact ⟨v, vs, rfl, h, h'⟩
theorem RVs.one {d : D} {v : V} (h : RV K F P H d v) : RVs K F P H [d] [v] := .cons h .nil
theorem RVs.uncons {d : D} {ds : List D} {vs : List V} (h : RVs K F P H (d :: ds) vs) : ∃ v vr, vs = v :: vr ∧ RV K F P H d v ∧ RVs K F P H ds vr := by
  simp only [RVs] at h; exact h
theorem RVs.unnil {vs : List V} (h : RVs K F P H [] vs) : vs = [] := by
  simp only [RVs] at h; exact h
theorem RVs.take : ∀ {ds : List D} {vs : List V} (n : Nat), RVs K F P H ds vs → RVs K F P H (ds.take n) (vs.take n)
  | ds, vs, 0, h => by simpa using RVs.nil
  | [], vs, n + 1, h => by rw [h.unnil]; simpa using RVs.nil
  | d :: ds, vs, n + 1, h => by
    obtain ⟨v, vr, rfl, q, r⟩ := h.uncons
    exact .cons q (RVs.take n r)
theorem RVs.drop : ∀ {ds : List D} {vs : List V} (n : Nat), RVs K F P H ds vs → RVs K F P H (ds.drop n) (vs.drop n)
  | ds, vs, 0, h => h
  | [], vs, n + 1, h => by rw [h.unnil]; simpa using RVs.nil
  | d :: ds, vs, n + 1, h => by
    obtain ⟨v, vr, rfl, q, r⟩ := h.uncons
    exact RVs.drop n r
theorem RVs.set : ∀ {ds : List D} {vs : List V} {d : D} {v : V} (n : Nat), RVs K F P H ds vs → RV K F P H d v → RVs K F P H (ds.set n d) (vs.set n v)
  | [], vs, d, v, n, h, q => by rw [h.unnil]; simpa using RVs.nil
  | d0 :: ds, vs, d, v, 0, h, q => by
    obtain ⟨v0, vr, rfl, q0, r⟩ := h.uncons
    exact .cons q r
  | d0 :: ds, vs, d, v, n + 1, h, q => by
    obtain ⟨v0, vr, rfl, q0, r⟩ := h.uncons
    exact .cons q0 (RVs.set n r q)
theorem RVs.eraseIdx : ∀ {ds : List D} {vs : List V} (n : Nat), RVs K F P H ds vs → RVs K F P H (ds.eraseIdx n) (vs.eraseIdx n)
  | [], vs, n, h => by rw [h.unnil]; simpa using RVs.nil
  | d0 :: ds, vs, 0, h => by
    obtain ⟨v0, vr, rfl, q0, r⟩ := h.uncons
    exact r
  | d0 :: ds, vs, n + 1, h => by
    obtain ⟨v0, vr, rfl, q0, r⟩ := h.uncons
    exact .cons q0 (RVs.eraseIdx n r)
theorem RVs.snoc : ∀ {ds : List D} {vs : List V}, RVs K F P H ds vs → RVs K F P H ds.reverse vs.reverse
  | [], vs, h => by rw [h.unnil]; simpa using RVs.nil
  | d0 :: ds, vs, h => by
    obtain ⟨v0, vr, rfl, q0, r⟩ := h.uncons
    rw [List.reverse_cons, List.reverse_cons]
    exact (RVs.snoc r).append (.one q0)
theorem RVs.dropLast : ∀ {ds : List D} {vs : List V}, RVs K F P H ds vs → RVs K F P H ds.dropLast vs.dropLast := fun {ds vs} h => by
  rw [List.dropLast_eq_take, List.dropLast_eq_take, h.length]
  exact h.take _
theorem RVs.of_mem : ∀ {ds : List D} {vs : List V} {d : D}, RVs K F P H ds vs → d ∈ ds → ∃ v, v ∈ vs ∧ RV K F P H d v := fun {ds vs d} h hd => by
  obtain ⟨i, hi⟩ := List.mem_iff_getElem?.mp hd
  obtain ⟨v, e, q⟩ := h.get hi
  exact ⟨v, List.mem_of_getElem? e, q⟩
end

section
variable {K : PySem.W.Frag} {Z : Fr} {N N' N'' : Nat} {F P F' P' F'' P'' : Addr → Prop} {env env' env'' : Ev} {σ : L2.St} {H H' H'' : Hp}

theorem Own.lst_of {a : Addr} {d : D} (h : Own K F P H a d) : ∃ vs, H a = some (.lst vs) := by
  cases d with
  | lst ds => obtain ⟨vs, e, _⟩ := h; exact ⟨vs, e⟩
  | _ => exact h.elim
theorem StR.owned (S : StR K Z N F P env σ H) {a : Addr} (o : Owned env σ a) : (∃ vs, H a = some (.lst vs)) ∧ ¬ F a ∧ ¬ P a ∧ Z.H0 a = none := by
  obtain ⟨i, d, e1, e2⟩ := o
  obtain ⟨b, e3, ow, nf, np, h0⟩ := S.ow i d e1
  rw [e2] at e3
  cases e3
  exact ⟨ow.lst_of, nf, np, h0⟩
theorem PotOk.lst {N : Nat} {o : Option HO} (h : PotOk N o) : ∃ vs, o = some (.lst vs) := by
  obtain ⟨x, y, c, e, _⟩ := h
  exact ⟨_, e⟩
theorem PotOk.le {N N' : Nat} {o : Option HO} (h : PotOk N o) (hN : N' ≤ N) : PotOk N' o := by
  obtain ⟨x, y, c, e, h1, h2, h3, h4, h5, h6⟩ := h
  exact ⟨x, y, c, e, h1, h2, h3, h4, h5, by omega⟩

/-- an expression's leavings keep what is known -/
theorem Ext.mon (S : StR K Z N F P env σ H) (E : Ext σ env F P H env' F' P' H') : Mon K F P H F' P' H' where
  fF := E.fF
  pP := E.pP
  tup := fun a xs h => by
    refine E.keep _ _ h (fun p => ?_) (fun p => ?_)
    · obtain ⟨vs, e'⟩ := (S.pot a p).lst
      rw [h] at e'; cases e'
    · obtain ⟨⟨vs, e'⟩, _⟩ := S.owned p
      rw [h] at e'; cases e'
  lst := fun a xs f h => by
    have nP := S.dis a f
    have nO : ¬ Owned env σ a := fun o => (S.owned o).2.1 f
    exact E.keep _ _ h nP nO
  frz := fun a o u h => by
    refine E.keep _ _ h (fun p => ?_) (fun p => ?_)
    · obtain ⟨vs, e'⟩ := (S.pot a p).lst
      rw [h] at e'; cases e'
    · obtain ⟨⟨vs, e'⟩, _⟩ := S.owned p
      rw [h] at e'; cases e'
theorem Ext.refl : Ext σ env F P H env F P H where
  fF := fun _ h => h
  pP := fun _ h => h
  own := fun _ h => h
  slot := fun i fl d e => ⟨fl, d, e⟩
  keep := fun _ _ h _ _ => h
  newF := fun _ h => .inl h
  newP := fun _ h => .inl h
  trk := fun _ h => h
theorem Ext.trans (E : Ext σ env F P H env' F' P' H') (E' : Ext σ env' F' P' H' env'' F'' P'' H'') : Ext σ env F P H env'' F'' P'' H'' where
  fF := fun a h => E'.fF a (E.fF a h)
  pP := fun a h => E'.pP a (E.pP a h)
  own := fun a h => E.own a (E'.own a h)
  slot := fun i fl d e => by
    obtain ⟨fl1, d1, e1⟩ := E.slot i fl d e
    exact E'.slot i fl1 d1 e1
  keep := fun b o h p ow => by
    refine E'.keep b o (E.keep b o h p ow) (fun p' => ?_) (fun o' => ow (E.own b o'))
    rcases E.newP b p' with q | q
    · exact p q
    · rw [h] at q; cases q
  newF := fun a h => by
    rcases E'.newF a h with q | q | q
    · exact E.newF a q
    · cases e : H a with
      | none => exact .inr (.inl rfl)
      | some o => exact absurd q (E.trk a (by rw [e]; simp))
    · exact .inr (.inr (E.own a q))
  newP := fun a h => by
    rcases E'.newP a h with q | q
    · exact E.newP a q
    · cases e : H a with
      | none => exact .inr rfl
      | some o => exact absurd q (E.trk a (by rw [e]; simp))
  trk := fun b h => E'.trk b (E.trk b h)
theorem StR.le (S : StR K Z N F P env σ H) (h : N' ≤ N) : StR K Z N' F P env σ H :=
  { S with pot := fun a p => (S.pot a p).le h, nle := Nat.le_trans h S.nle }

theorem RV.ext (S : StR K Z N F P env σ H) (E : Ext σ env F P H env' F' P' H') {d : D} {v : V} (h : RV K F P H d v) : RV K F' P' H' d v := h.mono (E.mon S)
theorem RVs.ext (S : StR K Z N F P env σ H) (E : Ext σ env F P H env' F' P' H') {d : List D} {v : List V} (h : RVs K F P H d v) : RVs K F' P' H' d v := h.mono (E.mon S)
theorem RH.ext (S : StR K Z N F P env σ H) (E : Ext σ env F P H env' F' P' H') : ∀ {h : Hd} {v : V}, RH K Z F P env σ H h v → RH K Z F' P' env' σ H' h v
  | .val d, v, h => RV.ext S E (show RV K F P H d v from h)
  | .tmp d, v, h => by
    obtain ⟨a, e, ow, nf, np, no, h0⟩ := h
    obtain ⟨vs, ha⟩ := ow.lst_of
    refine ⟨a, e, ?_, fun f => ?_, fun p => ?_, fun o => no (E.own a o), h0⟩
    · cases d with
      | lst ds =>
        obtain ⟨vs, ha, r⟩ := ow
        exact ⟨vs, E.keep a _ ha np no, RVs.ext S E r⟩
      | _ => exact ow.elim
    · rcases E.newF a f with q | q | q
      · exact nf q
      · rw [ha] at q; cases q
      · exact no q
    · rcases E.newP a p with q | q
      · exact np q
      · rw [ha] at q; cases q
  | .slot i, v, h => by
    obtain ⟨e, fl, d, e2⟩ := h
    exact ⟨e, E.slot i fl d e2⟩

/-- a handle's content -/
theorem RH.rc (S : StR K Z N F P env σ H) : ∀ {h : Hd} {v : V} {d : D}, RH K Z F P env σ H h v → rs env h = some d → RC K F P H d v
  | .val d, v, d', h, e => by
    have e' : d = d' := Option.some.inj e
    subst e'
    exact .inl h
  | .tmp d, v, d', h, e => by
    have e' : d = d' := Option.some.inj e
    subst e'
    obtain ⟨a, e, ow, _⟩ := h
    exact .inr ⟨a, e, ow⟩
  | .slot i, v, d', h, e => by
    obtain ⟨e1, fl, d, e2⟩ := h
    have e3 : d = d' := by
      simp only [rs, e2] at e
      exact Option.some.inj e
    subst e3
    cases fl with
    | false =>
      obtain ⟨v', q1, q2⟩ := S.fz i d e2
      rw [e1] at q1; cases q1
      exact .inl q2
    | true =>
      obtain ⟨a, q1, q2, _⟩ := S.ow i d e2
      rw [e1] at q1; cases q1
      exact .inr ⟨a, rfl, q2⟩

theorem Own.mono (m : Mon K F P H F' P' H') {a : Addr} {d : D} (h : Own K F P H a d) (k : ∀ vs, H a = some (.lst vs) → H' a = some (.lst vs)) : Own K F' P' H' a d := by
  cases d with
  | lst ds => obtain ⟨vs, e, r⟩ := h; exact ⟨vs, k vs e, r.mono m⟩
  | _ => exact h.elim
theorem Own.rv {a : Addr} {d : D} (h : Own K F P H a d) (f : F a) : RV K F P H d (.ref a) := by
  cases d with
  | lst ds =>
    obtain ⟨vs, e, r⟩ := h
    simp only [RV]
    exact ⟨a, vs, rfl, f, e, r⟩
  | _ => exact h.elim
/-- one more frozen -/
def addF (F : Addr → Prop) (a : Addr) : Addr → Prop := fun b => F b ∨ b = a
theorem mon_addF {a : Addr} : Mon K F P H (addF F a) P H :=
  ⟨fun _ h => .inl h, fun _ h => h, fun _ _ h => h, fun _ _ _ h => h, fun _ _ _ h => h⟩
theorem set_self {env : Ev} {i : Nat} {x : Slot} (h : env[i]? = some x) : env.set i x = env := by
  apply List.ext_getElem?
  intro j
  by_cases hj : i = j
  · subst hj
    rw [List.getElem?_set_self (List.getElem?_eq_some_iff.mp h).1, h]
  · rw [List.getElem?_set_ne hj]
/-- freezing -/
theorem StR.addF {a : Addr} (S : StR K Z N F P env σ H) (ha : ∃ o, H a = some o) (np : ¬ P a) (no : ¬ Owned env σ a) (h0 : Z.H0 a = none) : StR K Z N (addF F a) P env σ H where
  len := S.len
  fz := fun i d e => by
    obtain ⟨v, e1, r⟩ := S.fz i d e
    exact ⟨v, e1, r.mono mon_addF⟩
  ow := fun i d e => by
    obtain ⟨b, e1, o, nf, np, h0⟩ := S.ow i d e
    refine ⟨b, e1, o.mono mon_addF fun _ h => h, fun z => ?_, np, h0⟩
    rcases z with z | z
    · exact nf z
    · subst z; exact no ⟨i, d, e, e1⟩
  inj := S.inj
  same := S.same
  frF := fun b h => by
    rcases h with h | h
    · exact S.frF b h
    · subst h; exact .inr h0
  frP := S.frP
  subF := fun b h => .inl (S.subF b h)
  subP := S.subP
  trF := fun b h => by
    rcases h with h | h
    · exact S.trF b h
    · subst h; exact ha
  pot := S.pot
  dis := fun b h => by
    rcases h with h | h
    · exact S.dis b h
    · subst h; exact np
  nle := S.nle
/-- a slot's flag is taken -/
theorem StR.unflag {i : Nat} {d : D} {a : Addr} (S : StR K Z N F P env σ H) (e : env[i]? = some (some (true, d))) (hσ : σ[i]? = some (some (.ref a))) : StR K Z N (Mi.addF F a) P (env.set i (some (false, d))) σ H ∧ RV K (Mi.addF F a) P H d (.ref a) ∧ (∀ b, Owned (env.set i (some (false, d))) σ b → Owned env σ b) := by
  have hi : i < env.length := (List.getElem?_eq_some_iff.mp e).1
  obtain ⟨b, e1, o, nf, np, h0⟩ := S.ow i d e
  rw [hσ] at e1; cases e1
  have sub : ∀ j x, (env.set i (some (false, d)))[j]? = some (some (true, x)) → env[j]? = some (some (true, x)) ∧ j ≠ i := fun j x q => by
    by_cases hj : i = j
    · subst hj; rw [List.getElem?_set_self hi] at q; cases q
    · rw [List.getElem?_set_ne hj] at q; exact ⟨q, fun z => hj z.symm⟩
  have rv : RV K (Mi.addF F a) P H d (.ref a) := (o.mono mon_addF fun _ h => h).rv (.inr rfl)
  refine ⟨?_, rv, ?_⟩
  · refine { len := by simpa using S.len, fz := fun j x q => ?_, ow := fun j x q => ?_, inj := fun j k x y q q' z => S.inj j k x y (sub j x q).1 (sub k y q').1 z, same := S.same, frF := ?_, frP := S.frP, subF := fun b h => .inl (S.subF b h), subP := S.subP, trF := ?_, pot := S.pot, dis := ?_, nle := S.nle }
    · by_cases hj : i = j
      · subst hj; rw [List.getElem?_set_self hi] at q; cases q
        exact ⟨_, hσ, rv⟩
      · rw [List.getElem?_set_ne hj] at q
        obtain ⟨v, e1, r⟩ := S.fz j x q
        exact ⟨v, e1, r.mono mon_addF⟩
    · obtain ⟨q1, q2⟩ := sub j x q
      obtain ⟨b, e1, o, nf, np, h0⟩ := S.ow j x q1
      refine ⟨b, e1, o.mono mon_addF fun _ h => h, fun z => ?_, np, h0⟩
      rcases z with z | z
      · exact nf z
      · subst z; exact q2 (S.inj j i x d q1 e (e1.trans hσ.symm))
    · intro b h
      rcases h with h | h
      · exact S.frF b h
      · subst h; exact .inr h0
    · intro b h
      rcases h with h | h
      · exact S.trF b h
      · subst h; obtain ⟨vs, q⟩ := o.lst_of; exact ⟨_, q⟩
    · intro b h
      rcases h with h | h
      · exact S.dis b h
      · subst h; exact np
  · rintro b ⟨j, x, q1, q2⟩
    exact ⟨j, x, (sub j x q1).1, q2⟩
theorem RH.freeze {e0 : Ev} {F0 P0 : Addr → Prop} {H0 : Hp} (E : Ext σ e0 F0 P0 H0 env F P H) (S : StR K Z N F P env σ H) : ∀ {h : Hd} {v : V} {d : D} {env' : Ev}, Young H0 h v → RH K Z F P env σ H h v → fz env h = some (d, env') →
    ∃ F', Ext σ e0 F0 P0 H0 env' F' P H ∧ StR K Z N F' P env' σ H ∧ RV K F' P H d v
  | .val d, v, d', env', y, h, e => by
    have e' := Option.some.inj e
    cases e'
    exact ⟨F, E, S, h⟩
  | .tmp d, v, d', env', y, h, e => by
    have e' := Option.some.inj e
    cases e'
    obtain ⟨a, e, ow, nf, np, no, h0⟩ := h
    obtain ⟨b, ye, y0⟩ := y
    subst e
    cases ye
    obtain ⟨vs, ha⟩ := ow.lst_of
    refine ⟨Mi.addF F a, ⟨fun b h => .inl (E.fF b h), E.pP, E.own, E.slot, E.keep, fun b h => ?_, E.newP, E.trk⟩, S.addF ⟨_, ha⟩ np no h0, (ow.mono mon_addF fun _ h => h).rv (.inr rfl)⟩
    rcases h with h | h
    · exact E.newF b h
    · subst h; exact .inr (.inl y0)
  | .slot i, v, d', env', y, h, e => by
    obtain ⟨e1, fl, d, e2⟩ := h
    simp only [Mi.fz, e2] at e
    cases e
    cases fl with
    | false =>
      rw [set_self e2]
      obtain ⟨v', q1, q2⟩ := S.fz i _ e2
      rw [e1] at q1; cases q1
      exact ⟨F, E, S, q2⟩
    | true =>
      obtain ⟨a, q1, o, _, np, h0⟩ := S.ow i _ e2
      rw [e1] at q1; cases q1
      obtain ⟨S', rv, sub⟩ := S.unflag e2 e1
      refine ⟨Mi.addF F a, ⟨fun b h => .inl (E.fF b h), E.pP, fun b h => E.own b (sub b h), fun j fl x q => ?_, E.keep, fun b h => ?_, E.newP, E.trk⟩, S', rv⟩
      · obtain ⟨fl', x', q'⟩ := E.slot j fl x q
        by_cases hj : i = j
        · subst hj
          exact ⟨false, _, List.getElem?_set_self (List.getElem?_eq_some_iff.mp e2).1⟩
        · exact ⟨fl', x', by rw [List.getElem?_set_ne hj]; exact q'⟩
      · rcases h with h | h
        · exact E.newF b h
        · subst h; exact .inr (.inr (E.own _ ⟨i, _, e2, e1⟩))
end
end Mi
set_option Elab.async false
set_option linter.all false
set_option maxRecDepth 100000
set_option maxHeartbeats 1000000
namespace Mi
open PySem PySem.Spec PyProof.Rows L2

theorem PE.imp {X : Cx} {e : Expr} {t t' : TE} (p : PE X e t) (h : ∀ σ H Q, t' σ H Q → t σ H Q) : PE X e t' := ⟨fun pins s σ H Q I hw => p.run pins s σ H Q I (h σ H Q hw)⟩
theorem PT.imp {X : Cx} {e : Expr} {t t' : TT} (p : PT X e t) (h : ∀ σ H Q, t' σ H Q → t σ H Q) : PT X e t' := ⟨fun pins s σ H Q I hw => p.run pins s σ H Q I (h σ H Q hw)⟩
theorem PA.imp {X : Cx} {e : List Expr} {t t' : TA} (p : PA X e t) (h : ∀ σ H Q, t' σ H Q → t σ H Q) : PA X e t' := ⟨fun pos pins s σ H Q I hw => p.run pos pins s σ H Q I (h σ H Q hw)⟩
theorem PS.imp {X : Cx} {e : Stmt} {t t' : TS} (p : PS X e t) (h : ∀ D σ H, t' D σ H → t D σ H) : PS X e t' := ⟨fun pins s σ H D I hw => p.run pins s σ H D I (h D σ H hw)⟩
theorem PSs.imp {X : Cx} {e : List Stmt} {t t' : TS} (p : PSs X e t) (h : ∀ D σ H, t' D σ H → t D σ H) : PSs X e t' := ⟨fun pins s σ H D I hw => p.run pins s σ H D I (h D σ H hw)⟩
theorem PE.or {X : Cx} {e : Expr} {t t' : TE} (p : PE X e t) (p' : PE X e t') : PE X e (fun σ H Q => t σ H Q ∨ t' σ H Q) := ⟨fun pins s σ H Q I hw => hw.elim (p.run pins s σ H Q I) (p'.run pins s σ H Q I)⟩

section
variable {K : PySem.W.Frag} {Z : Fr} {N N' N'' : Nat} {F P F' P' F'' P'' : Addr → Prop} {env env' env'' e0 : Ev} {σ : L2.St} {H H' H'' H0 : Hp} {F0 P0 : Addr → Prop}

/-! ### one more object -/
theorem StR.alloc {p : Addr} {o : HO} (S : StR K Z N F P env σ H) (hp : H p = none) : StR K Z N F P env σ (upd H p o) := by
  have nP : ¬ P p := fun q => by
    obtain ⟨vs, e⟩ := (S.pot p q).lst
    rw [hp] at e; cases e
  have nF : ¬ F p := fun q => by
    obtain ⟨o, e⟩ := S.trF p q
    rw [hp] at e; cases e
  have kp : ∀ b u, H b = some u → upd H p o b = some u := fun b u e => by rw [upd_ne (ne_of_none e hp)]; exact e
  have m : Mon K F P H F P (upd H p o) := ⟨fun _ h => h, fun _ h => h, fun a xs h => kp _ _ h, fun a xs _ h => kp _ _ h, fun a o u h => kp _ _ h⟩
  refine { len := S.len, fz := fun i d e => ?_, ow := fun i d e => ?_, inj := S.inj, same := fun b u e q => kp _ _ (S.same b u e q), frF := S.frF, frP := S.frP, subF := S.subF, subP := S.subP, trF := fun a h => ?_, pot := fun a h => ?_, dis := S.dis, nle := S.nle }
  · obtain ⟨v, e1, r⟩ := S.fz i d e
    exact ⟨v, e1, r.mono m⟩
  · obtain ⟨a, e1, ow, q⟩ := S.ow i d e
    exact ⟨a, e1, ow.mono m fun vs z => kp _ _ z, q⟩
  · obtain ⟨u, e⟩ := S.trF a h
    exact ⟨u, kp _ _ e⟩
  · have q := S.pot a h
    obtain ⟨vs, e⟩ := q.lst
    rw [kp _ _ e, ← e]; exact q
theorem Ext.alloc {p : Addr} {o : HO} (hp : H p = none) : Ext σ env F P H env F P (upd H p o) where
  fF := fun _ h => h
  pP := fun _ h => h
  own := fun _ h => h
  slot := fun i fl d e => ⟨fl, d, e⟩
  keep := fun b u e _ _ => by rw [upd_ne (ne_of_none e hp)]; exact e
  newF := fun _ h => .inl h
  newP := fun _ h => .inl h
  trk := fun b h => by
    unfold upd
    split
    · simp
    · exact h
theorem StR.noneF (S : StR K Z N F P env σ H) {p : Addr} (hp : H p = none) : ¬ F p ∧ ¬ P p ∧ ¬ Owned env σ p ∧ Z.H0 p = none := by
  refine ⟨fun q => ?_, fun q => ?_, fun q => ?_, ?_⟩
  · obtain ⟨o, e⟩ := S.trF p q
    rw [hp] at e; cases e
  · obtain ⟨vs, e⟩ := (S.pot p q).lst
    rw [hp] at e; cases e
  · obtain ⟨⟨vs, e⟩, _⟩ := S.owned q
    rw [hp] at e; cases e
  · cases e : Z.H0 p with
    | none => rfl
    | some o =>
      by_cases hP : P p
      · obtain ⟨vs, e⟩ := (S.pot p hP).lst
        rw [hp] at e; cases e
      · rw [S.same p o e hP] at hp; cases hp

/-! ### what an expression is to leave -/
def Post (K : PySem.W.Frag) (Z : Fr) (σ : L2.St) (e0 : Ev) (F0 P0 : Addr → Prop) (H0 : Hp) (Q : VK) (N' : Nat) (r : Hd × Ev) : Prop :=
  ∀ v H' F' P', Ext σ e0 F0 P0 H0 r.2 F' P' H' → StR K Z N' F' P' r.2 σ H' → RH K Z F' P' r.2 σ H' r.1 v → Young H0 r.1 v → Q v H'
theorem Young.back (E : Ext σ e0 F0 P0 H0 env F P H) : ∀ {h : Hd} {v : V}, Young H h v → Young H0 h v
  | .val _, _, _ => trivial
  | .slot _, _, _ => trivial
  | .tmp _, _, y => by
    obtain ⟨a, e, q⟩ := y
    refine ⟨a, e, ?_⟩
    cases z : H0 a with
    | none => rfl
    | some o => exact absurd q (E.trk a (by rw [z]; simp))
theorem Post.from {Q : VK} {r : Hd × Ev} (E : Ext σ e0 F0 P0 H0 env F P H) (h : Post K Z σ e0 F0 P0 H0 Q N' r) : Post K Z σ env F P H Q N' r :=
  fun v H' F' P' E' S' r' y' => h v H' F' P' (E.trans E') S' r' (y'.back E)
/-- a result by its form -/
def ResK (K : PySem.W.Frag) (F P : Addr → Prop) (H : Hp) (h : Hd) (Q : VK) : Prop :=
  match h with
  | .val d => (∀ v, RV K F P H d v → Q v H) ∧ (∀ p vs ds, d = .tup ds → RVs K F P H ds vs → H p = none → Q (.ref p) (upd H p (.tup vs)))
  | .tmp d => ∀ p ds vs, d = .lst ds → RVs K F P H ds vs → H p = none → Q (.ref p) (upd H p (.lst vs))
  | .slot _ => False
theorem RVs.alloc {p : Addr} {o : HO} {ds : List D} {vs : List V} (hp : H p = none) (h : RVs K F P H ds vs) : RVs K F P (upd H p o) ds vs := by
  have kp : ∀ b u, H b = some u → upd H p o b = some u := fun b u e => by rw [upd_ne (ne_of_none e hp)]; exact e
  exact h.mono ⟨fun _ h => h, fun _ h => h, fun a xs h => kp _ _ h, fun a xs _ h => kp _ _ h, fun a o u h => kp _ _ h⟩
theorem Post.res {Q : VK} {h : Hd} (S : StR K Z N F P env σ H) (hs : ∀ i, h ≠ .slot i) (q : Post K Z σ env F P H Q N (h, env)) : ResK K F P H h Q := by
  cases h with
  | slot i => exact (hs i rfl).elim
  | val d =>
    refine ⟨fun v r => q v H F P Ext.refl S r trivial, fun p vs ds e r hp => ?_⟩
    subst e
    refine q (.ref p) (upd H p (.tup vs)) F P (Ext.alloc hp) (S.alloc hp) ?_ trivial
    show RV K F P (upd H p (.tup vs)) (.tup ds) (.ref p)
    simp only [RV]
    exact ⟨p, vs, rfl, upd_same, r.alloc hp⟩
  | tmp d =>
    intro p ds vs e r hp
    subst e
    obtain ⟨nF, nP, nO, h0⟩ := S.noneF hp
    exact q (.ref p) (upd H p (.lst vs)) F P (Ext.alloc hp) (S.alloc hp) ⟨p, rfl, ⟨vs, upd_same, r.alloc hp⟩, nF, nP, nO, h0⟩ ⟨p, rfl, hp⟩

/-! ### names, constants -/
def eVar (i : Nat) : M := fun env => match env[i]? with
  | some (some (false, d)) => .ret (.val d, env)
  | some (some (true, _)) => .ret (.slot i, env)
  | _ => .fail
theorem eVar_ok {i : Nat} {Q : VK} (h : tM K Z (eVar i) σ H Q) : tVar i σ H Q := by
  obtain ⟨N, F, P, env, S, h⟩ := h
  unfold eVar at h
  split at h
  · rename_i d e
    obtain ⟨v, e1, r⟩ := S.fz i d e
    exact ⟨v, e1, h v H F P Ext.refl S r trivial⟩
  · rename_i d e
    obtain ⟨a, e1, _⟩ := S.ow i d e
    exact ⟨.ref a, e1, h (.ref a) H F P Ext.refl S ⟨e1, _, _, e⟩ trivial⟩
  · exact h.elim
def eC (d : D) : M := fun env => .ret (.val d, env)
theorem eC_ok {d : D} {v : V} {Q : VK} (hv : ∀ F P H, RV K F P H d v) (h : tM K Z (eC d) σ H Q) : tC v σ H Q := by
  obtain ⟨N, F, P, env, S, h⟩ := h
  exact h v H F P Ext.refl S (hv F P H) trivial

/-! ### two operands -/
def e2 (m1 m2 : M) (f : Ev → Hd → Hd → T (Hd × Ev)) : M := fun env => (m1 env).bind fun r1 => (m2 r1.2).bind fun r2 => f r2.2 r1.1 r2.1
def f2 (g : D → D → Option Hd) : Ev → Hd → Hd → T (Hd × Ev) := fun env h1 h2 => match rs env h1, rs env h2 with
  | some d1, some d2 => match g d1 d2 with
    | some h => .ret (h, env)
    | none => .fail
  | _, _ => .fail
def eOp (g : D → D → Option Hd) (m1 m2 : M) : M := e2 m1 m2 (f2 g)
/-- r is met where g tells -/
def Op2 (K : PySem.W.Frag) (r : R2) (g : D → D → Option Hd) : Prop := ∀ {F P : Addr → Prop} {H : Hp} {d1 d2 : D} {v1 v2 : V} {h : Hd} {Q : VK},
  RC K F P H d1 v1 → RC K F P H d2 v2 → g d1 d2 = some h → (∀ i, h ≠ .slot i) ∧ (ResK K F P H h Q → r v1 v2 H Q)
theorem eOp_ok {r : R2} {g : D → D → Option Hd} {m1 m2 : M} {Q : VK} (hr : Op2 K r g) (h : tM K Z (eOp g m1 m2) σ H Q) : tOp r (tM K Z m1) (tM K Z m2) σ H Q := by
  obtain ⟨N, F, P, env, S, h⟩ := h
  refine ⟨N, F, P, env, S, T.ok_mono (fun N1 r1 q1 => ?_) (T.ok_bind h)⟩
  intro v1 H1 F1 P1 E1 S1 R1 Y1
  refine ⟨N1, F1, P1, r1.2, S1, T.ok_mono (fun N2 r2 q2 => ?_) (T.ok_bind q1)⟩
  intro v2 H2 F2 P2 E2 S2 R2 Y2
  unfold f2 at q2
  split at q2
  · rename_i d1 d2 e1 e2
    split at q2
    · rename_i hd e3
      obtain ⟨ns, go⟩ := hr (Q := Q) ((R1.ext S1 E2).rc S2 e1) (R2.rc S2 e2) e3
      exact go (Post.res S2 ns (Post.from (E1.trans E2) q2))
    · exact q2.elim
  · exact q2.elim
def e1 (m1 : M) (f : Ev → Hd → T (Hd × Ev)) : M := fun env => (m1 env).bind fun r1 => f r1.2 r1.1
def f1 (g : D → Option Hd) : Ev → Hd → T (Hd × Ev) := fun env h1 => match rs env h1 with
  | some d1 => match g d1 with
    | some h => .ret (h, env)
    | none => .fail
  | _ => .fail
def eUn (g : D → Option Hd) (m1 : M) : M := e1 m1 (f1 g)
def Op1 (K : PySem.W.Frag) (r : V → Hp → VK → Prop) (g : D → Option Hd) : Prop := ∀ {F P : Addr → Prop} {H : Hp} {d1 : D} {v1 : V} {h : Hd} {Q : VK},
  RC K F P H d1 v1 → g d1 = some h → (∀ i, h ≠ .slot i) ∧ (ResK K F P H h Q → r v1 H Q)
theorem eUn_ok {r : V → Hp → VK → Prop} {g : D → Option Hd} {m1 : M} {Q : VK} (hr : Op1 K r g) (h : tM K Z (eUn g m1) σ H Q) : tUn r (tM K Z m1) σ H Q := by
  obtain ⟨N, F, P, env, S, h⟩ := h
  refine ⟨N, F, P, env, S, T.ok_mono (fun N1 r1 q1 => ?_) (T.ok_bind h)⟩
  intro v1 H1 F1 P1 E1 S1 R1 Y1
  unfold f1 at q1
  split at q1
  · rename_i d1 e1
    split at q1
    · rename_i hd e3
      obtain ⟨ns, go⟩ := hr (Q := Q) (R1.rc S1 e1) e3
      exact go (Post.res S1 ns (Post.from E1 q1))
    · exact q1.elim
  · exact q1.elim

/-! ### argument lists -/
abbrev MH := Ev → T (List Hd × Ev)
def RHs (K : PySem.W.Frag) (Z : Fr) (F P : Addr → Prop) (env : Ev) (σ : L2.St) (H : Hp) : List Hd → List V → Prop
  | [], vs => vs = []
  | h :: hs, vs => ∃ v vr, vs = v :: vr ∧ RH K Z F P env σ H h v ∧ RHs K Z F P env σ H hs vr
def Youngs (H : Hp) : List Hd → List V → Prop
  | h :: hs, v :: vs => Young H h v ∧ Youngs H hs vs
  | _, _ => True
/-- temporaries stand apart -/
def Apart : List Hd → List V → Prop
  | .tmp _ :: hs, v :: vs => (∀ i : Nat, (∃ d, hs[i]? = some (.tmp d)) → vs[i]? ≠ some v) ∧ Apart hs vs
  | _ :: hs, _ :: vs => Apart hs vs
  | _, _ => True
def tH (K : PySem.W.Frag) (Z : Fr) (m : MH) : TA := fun σ H Q => ∃ N F P env, StR K Z N F P env σ H ∧ (m env).ok N fun N' r =>
  ∀ vs H' F' P', Ext σ env F P H r.2 F' P' H' → StR K Z N' F' P' r.2 σ H' → RHs K Z F' P' r.2 σ H' r.1 vs → Youngs H r.1 vs → Apart r.1 vs → Q vs H'
def hNil : MH := fun env => .ret ([], env)
def hCons (m : M) (ms : MH) : MH := fun env => (m env).bind fun r1 => (ms r1.2).bind fun r2 => .ret (r1.1 :: r2.1, r2.2)
theorem hNil_ok {Q : List V → Hp → Prop} (h : tH K Z hNil σ H Q) : tNil σ H Q := by
  obtain ⟨N, F, P, env, S, h⟩ := h
  exact h [] H F P Ext.refl S rfl trivial trivial
theorem RHs.ext (S : StR K Z N F P env σ H) (E : Ext σ env F P H env' F' P' H') : ∀ {h : List Hd} {v : List V}, RHs K Z F P env σ H h v → RHs K Z F' P' env' σ H' h v
  | [], v, h => h
  | h :: hs, v, q => by
    obtain ⟨x, xr, e, r, rr⟩ := q
    exact ⟨x, xr, e, r.ext S E, RHs.ext S E rr⟩
theorem Youngs.back (E : Ext σ e0 F0 P0 H0 env F P H) : ∀ {h : List Hd} {v : List V}, Youngs H h v → Youngs H0 h v
  | [], _, _ => by cases ‹List V› <;> trivial
  | _ :: _, [], _ => trivial
  | _ :: _, _ :: _, y => ⟨y.1.back E, Youngs.back E y.2⟩
theorem Youngs.tmp {d : D} : ∀ {hs : List Hd} {vs : List V} {i : Nat} {v : V}, Youngs H hs vs → hs[i]? = some (.tmp d) → vs[i]? = some v → ∃ a, v = .ref a ∧ H a = none
  | [], _, _, _, _, e, _ => by simp at e
  | _ :: _, [], _, _, _, _, e => by simp at e
  | h :: hs, v :: vs, 0, w, y, e, e' => by
    simp at e e'
    subst e; subst e'
    exact y.1
  | h :: hs, v :: vs, i + 1, w, y, e, e' => Youngs.tmp (i := i) y.2 (by simpa using e) (by simpa using e')
theorem hCons_ok {m : M} {ms : MH} {Q : List V → Hp → Prop} (h : tH K Z (hCons m ms) σ H Q) : tCons (tM K Z m) (tH K Z ms) σ H Q := by
  obtain ⟨N, F, P, env, S, h⟩ := h
  refine ⟨N, F, P, env, S, T.ok_mono (fun N1 r1 q1 => ?_) (T.ok_bind h)⟩
  intro v1 H1 F1 P1 E1 S1 R1 Y1
  refine ⟨N1, F1, P1, r1.2, S1, T.ok_mono (fun N2 r2 q2 => ?_) (T.ok_bind q1)⟩
  intro v2 H2 F2 P2 E2 S2 R2 Y2 A2
  refine q2 (v1 :: v2) H2 F2 P2 (E1.trans E2) S2 ⟨v1, v2, rfl, R1.ext S1 E2, R2⟩ ⟨Y1, Y2.back E1⟩ ?_
  cases h1 : r1.1 with
  | val d => exact A2
  | slot i => exact A2
  | tmp d =>
    refine ⟨fun i ⟨d', e⟩ z => ?_, A2⟩
    obtain ⟨a, ea, ha⟩ := Y2.tmp e z
    rw [h1] at R1
    obtain ⟨b, eb, ow, _⟩ := R1
    obtain ⟨vs, hb⟩ := ow.lst_of
    rw [ea] at eb
    cases eb
    rw [hb] at ha; cases ha
/-- contents -/
def rss (e : Ev) : List Hd → Option (List D)
  | [] => some []
  | h :: hs => match rs e h, rss e hs with
    | some d, some ds => some (d :: ds)
    | _, _ => none
def RCs (K : PySem.W.Frag) (F P : Addr → Prop) (H : Hp) : List D → List V → Prop
  | [], vs => vs = []
  | d :: ds, vs => ∃ v vr, vs = v :: vr ∧ RC K F P H d v ∧ RCs K F P H ds vr
theorem RHs.rcs (S : StR K Z N F P env σ H) : ∀ {hs : List Hd} {vs : List V} {ds : List D}, RHs K Z F P env σ H hs vs → rss env hs = some ds → RCs K F P H ds vs
  | [], vs, ds, h, e => by cases e; exact h
  | h :: hs, vs, ds, q, e => by
    obtain ⟨v, vr, ev, r, rr⟩ := q
    unfold rss at e
    split at e
    · rename_i d ds' e1 e2
      cases e
      exact ⟨v, vr, ev, r.rc S e1, RHs.rcs S rr e2⟩
    · cases e
def fzs (e : Ev) : List Hd → Option (List D × Ev)
  | [] => some ([], e)
  | h :: hs => match fz e h with
    | some (d, e') => match fzs e' hs with
      | some (ds, e'') => some (d :: ds, e'')
      | none => none
    | none => none
/-- a handle, but for what may be frozen already -/
def RHw (K : PySem.W.Frag) (Z : Fr) (F P : Addr → Prop) (env : Ev) (σ : L2.St) (H : Hp) : Hd → V → Prop
  | .val d, v => RV K F P H d v
  | .tmp d, v => ∃ a, v = .ref a ∧ Own K F P H a d ∧ ¬ P a ∧ ¬ Owned env σ a ∧ Z.H0 a = none
  | .slot i, v => σ[i]? = some (some v) ∧ ∃ fl d, env[i]? = some (some (fl, d))
theorem RH.w : ∀ {h : Hd} {v : V}, RH K Z F P env σ H h v → RHw K Z F P env σ H h v
  | .val d, v, h => h
  | .tmp d, v, ⟨a, e, o, _, q⟩ => ⟨a, e, o, q⟩
  | .slot i, v, h => h
def RHsw (K : PySem.W.Frag) (Z : Fr) (F P : Addr → Prop) (env : Ev) (σ : L2.St) (H : Hp) : List Hd → List V → Prop
  | [], vs => vs = []
  | h :: hs, vs => ∃ v vr, vs = v :: vr ∧ RHw K Z F P env σ H h v ∧ RHsw K Z F P env σ H hs vr
theorem RHs.w : ∀ {h : List Hd} {v : List V}, RHs K Z F P env σ H h v → RHsw K Z F P env σ H h v
  | [], v, h => h
  | h :: hs, v, ⟨x, xr, e, r, rr⟩ => ⟨x, xr, e, r.w, RHs.w rr⟩
theorem RHw.freeze (E : Ext σ e0 F0 P0 H0 env F P H) (S : StR K Z N F P env σ H) : ∀ {h : Hd} {v : V} {d : D} {env' : Ev}, Young H0 h v → RHw K Z F P env σ H h v → fz env h = some (d, env') →
    ∃ F', Ext σ e0 F0 P0 H0 env' F' P H ∧ StR K Z N F' P env' σ H ∧ RV K F' P H d v ∧ Mon K F P H F' P H ∧ (∀ b, Owned env' σ b → Owned env σ b) ∧
      ∀ (i : Nat) fl x, env[i]? = some (some (fl, x)) → ∃ fl x, env'[i]? = some (some (fl, x))
  | .val d, v, d', env', y, h, e => by
    have e' := Option.some.inj e
    cases e'
    exact ⟨F, E, S, h, ⟨fun _ h => h, fun _ h => h, fun _ _ h => h, fun _ _ _ h => h, fun _ _ _ h => h⟩, fun _ h => h, fun i fl x e => ⟨fl, x, e⟩⟩
  | .tmp d, v, d', env', y, h, e => by
    have e' := Option.some.inj e
    cases e'
    obtain ⟨a, e, ow, np, no, h0⟩ := h
    obtain ⟨b, ye, y0⟩ := y
    subst e
    cases ye
    obtain ⟨vs, ha⟩ := ow.lst_of
    refine ⟨addF F a, ⟨fun b h => .inl (E.fF b h), E.pP, E.own, E.slot, E.keep, fun b h => ?_, E.newP, E.trk⟩, S.addF ⟨_, ha⟩ np no h0, (ow.mono mon_addF fun _ h => h).rv (.inr rfl), mon_addF, fun _ h => h, fun i fl x e => ⟨fl, x, e⟩⟩
    rcases h with h | h
    · exact E.newF b h
    · subst h; exact .inr (.inl y0)
  | .slot i, v, d', env', y, h, e => by
    obtain ⟨e1, fl, d, e2⟩ := h
    simp only [Mi.fz, e2] at e
    cases e
    have sl : ∀ (j : Nat) fl x, env[j]? = some (some (fl, x)) → ∃ fl x, (env.set i (some (false, d')))[j]? = some (some (fl, x)) := fun j fl x q => by
      by_cases hj : i = j
      · subst hj
        exact ⟨false, _, List.getElem?_set_self (List.getElem?_eq_some_iff.mp e2).1⟩
      · exact ⟨fl, x, by rw [List.getElem?_set_ne hj]; exact q⟩
    cases fl with
    | false =>
      rw [set_self e2]
      obtain ⟨v', q1, q2⟩ := S.fz i _ e2
      rw [e1] at q1; cases q1
      exact ⟨F, E, S, q2, ⟨fun _ h => h, fun _ h => h, fun _ _ h => h, fun _ _ _ h => h, fun _ _ _ h => h⟩, fun _ h => h, fun i fl x e => ⟨fl, x, e⟩⟩
    | true =>
      obtain ⟨a, q1, o, _, np, h0⟩ := S.ow i _ e2
      rw [e1] at q1; cases q1
      obtain ⟨S', rv, sub⟩ := S.unflag e2 e1
      refine ⟨addF F a, ⟨fun b h => .inl (E.fF b h), E.pP, fun b h => E.own b (sub b h), fun j fl x q => ?_, E.keep, fun b h => ?_, E.newP, E.trk⟩, S', rv, mon_addF, sub, sl⟩
      · obtain ⟨fl', x', q'⟩ := E.slot j fl x q
        exact sl j fl' x' q'
      · rcases h with h | h
        · exact E.newF b h
        · subst h; exact .inr (.inr (E.own _ ⟨i, _, e2, e1⟩))
theorem RHsw.re (m : Mon K F P H F' P H) (ow : ∀ b, Owned env' σ b → Owned env σ b) (sl : ∀ (i : Nat) fl x, env[i]? = some (some (fl, x)) → ∃ fl x, env'[i]? = some (some (fl, x))) :
    ∀ {hs : List Hd} {vs : List V}, RHsw K Z F P env σ H hs vs → RHsw K Z F' P env' σ H hs vs
  | [], vs, h => h
  | h :: hs, vs, ⟨v, vr, e, r, rr⟩ => by
    refine ⟨v, vr, e, ?_, RHsw.re m ow sl rr⟩
    cases h with
    | val d => exact RV.mono m d v r
    | tmp d =>
      obtain ⟨a, e, o, np, no, h0⟩ := r
      exact ⟨a, e, o.mono m fun _ h => h, np, fun z => no (ow a z), h0⟩
    | slot i =>
      obtain ⟨e1, fl, d, e2⟩ := r
      exact ⟨e1, sl i fl d e2⟩
theorem RHsw.freeze : ∀ {hs : List Hd} {vs : List V} {ds : List D} {env env' : Ev} {F : Addr → Prop}, Ext σ e0 F0 P0 H0 env F P H → StR K Z N F P env σ H → Youngs H0 hs vs → RHsw K Z F P env σ H hs vs → fzs env hs = some (ds, env') →
    ∃ F', Ext σ e0 F0 P0 H0 env' F' P H ∧ StR K Z N F' P env' σ H ∧ RVs K F' P H ds vs ∧ Mon K F P H F' P H
  | [], vs, ds, env, env', F, E, S, y, r, e => by
    cases e
    have r' : vs = [] := r
    subst r'
    exact ⟨F, E, S, .nil, ⟨fun _ h => h, fun _ h => h, fun _ _ h => h, fun _ _ _ h => h, fun _ _ _ h => h⟩⟩
  | h :: hs, vs, ds, env, env', F, E, S, y, r, e => by
    obtain ⟨v, vr, rfl, r1, rr⟩ := r
    unfold fzs at e
    split at e
    · rename_i d env1 q1
      split at e
      · rename_i ds1 env2 q2
        cases e
        obtain ⟨F1, E1, S1, rv1, m1, ow1, sl1⟩ := RHw.freeze E S y.1 r1 q1
        obtain ⟨F2, E2, S2, rv2, m2⟩ := RHsw.freeze E1 S1 y.2 (rr.re m1 ow1 sl1) q2
        exact ⟨F2, E2, S2, .cons (rv1.mono m2) rv2, ⟨fun a h => m2.fF a (m1.fF a h), fun a h => m2.pP a (m1.pP a h), fun a xs h => m2.tup a xs (m1.tup a xs h), fun a xs f h => m2.lst a xs (m1.fF a f) (m1.lst a xs f h), fun a o u h => m2.frz a o u (m1.frz a o u h)⟩⟩
      · cases e
    · cases e
theorem RHs.freeze {hs : List Hd} {vs : List V} {ds : List D} (E : Ext σ e0 F0 P0 H0 env F P H) (S : StR K Z N F P env σ H) (y : Youngs H0 hs vs) (r : RHs K Z F P env σ H hs vs) (e : fzs env hs = some (ds, env')) :
    ∃ F', Ext σ e0 F0 P0 H0 env' F' P H ∧ StR K Z N F' P env' σ H ∧ RVs K F' P H ds vs :=
  let ⟨F', E', S', r', _⟩ := RHsw.freeze E S y r.w e
  ⟨F', E', S', r'⟩
theorem RHs.freeze' {hs : List Hd} {vs : List V} {ds : List D} (E : Ext σ e0 F0 P0 H0 env F P H) (S : StR K Z N F P env σ H) (y : Youngs H0 hs vs) (r : RHs K Z F P env σ H hs vs) (e : fzs env hs = some (ds, env')) :
    ∃ F', Ext σ e0 F0 P0 H0 env' F' P H ∧ StR K Z N F' P env' σ H ∧ RVs K F' P H ds vs ∧ ∀ a, F a → F' a :=
  let ⟨F', E', S', r', m⟩ := RHsw.freeze E S y r.w e
  ⟨F', E', S', r', m.fF⟩

/-! ### a call by values: contents in, a result out -/
def eCall (ms : MH) (g : List D → Option Hd) : M := fun env => (ms env).bind fun r => match rss r.2 r.1 with
  | some ds => match g ds with
    | some h => .ret (h, r.2)
    | none => .fail
  | none => .fail
def OpN (K : PySem.W.Frag) (r : List V → Hp → VK → Prop) (g : List D → Option Hd) : Prop := ∀ {F P : Addr → Prop} {H : Hp} {ds : List D} {vs : List V} {h : Hd} {Q : VK},
  RCs K F P H ds vs → g ds = some h → (∀ i, h ≠ .slot i) ∧ (ResK K F P H h Q → r vs H Q)
theorem eCall_ok {r : List V → Hp → VK → Prop} {g : List D → Option Hd} {ms : MH} {Q : VK} (hr : OpN K r g) (h : tM K Z (eCall ms g) σ H Q) : tCB r (tH K Z ms) σ H Q := by
  obtain ⟨N, F, P, env, S, h⟩ := h
  refine ⟨N, F, P, env, S, T.ok_mono (fun N1 r1 q1 => ?_) (T.ok_bind h)⟩
  intro vs H1 F1 P1 E1 S1 R1 Y1 A1
  split at q1
  · rename_i ds e1
    split at q1
    · rename_i hd e3
      obtain ⟨ns, go⟩ := hr (Q := Q) (R1.rcs S1 e1) e3
      exact go (Post.res S1 ns (Post.from E1 q1))
    · exact q1.elim
  · exact q1.elim
/-! ### displays -/
def eTup (ms : MH) : M := fun env => (ms env).bind fun r => match fzs r.2 r.1 with
  | some (ds, env') => .ret (.val (.tup ds), env')
  | none => .fail
def eLst (ms : MH) : M := fun env => (ms env).bind fun r => match fzs r.2 r.1 with
  | some (ds, env') => .ret (.tmp (.lst ds), env')
  | none => .fail
def HLen (n : Nat) (ms : MH) : Prop := ∀ (env : Ev) (N : Nat) (Q : Nat → List Hd × Ev → Prop), (ms env).ok N Q → (ms env).ok N fun N' r => r.1.length = n ∧ Q N' r
theorem hNil_len : HLen 0 hNil := fun env N Q h => ⟨rfl, h⟩
theorem hCons_len {n : Nat} {m : M} {ms : MH} (h : HLen n ms) : HLen (n + 1) (hCons m ms) := fun env N Q q => by
  refine T.bind_ok (T.ok_mono (fun N1 r1 q1 => ?_) (T.ok_bind q))
  exact T.bind_ok (T.ok_mono (fun N2 r2 q2 => ⟨by simp [q2.1], q2.2⟩) (h _ _ _ (T.ok_bind q1)))
theorem RHs.length : ∀ {hs : List Hd} {vs : List V}, RHs K Z F P env σ H hs vs → vs.length = hs.length
  | [], vs, h => by have h' : vs = [] := h; subst h'; rfl
  | h :: hs, vs, ⟨v, vr, e, r, rr⟩ => by subst e; simp [RHs.length rr]
theorem eTup_ok {ms : MH} {n : Nat} {Q : VK} (hn : HLen n ms) (hz : n ≤ sizeLine) (h : tM K Z (eTup ms) σ H Q) : tTup (tH K Z ms) σ H Q := by
  obtain ⟨N, F, P, env, S, h⟩ := h
  refine ⟨N, F, P, env, S, T.ok_mono (fun N1 r1 ⟨l1, q1⟩ => ?_) (hn _ _ _ (T.ok_bind h))⟩
  intro vs H1 F1 P1 E1 S1 R1 Y1 A1
  split at q1
  · rename_i ds env1 e1
    obtain ⟨F2, E2, S2, rv⟩ := R1.freeze E1 S1 Y1 e1
    refine ⟨by rw [R1.length, l1]; exact hz, fun p hp => ?_⟩
    refine q1 (.ref p) _ F2 P1 (E2.trans (Ext.alloc hp)) (S2.alloc hp) ?_ trivial
    show RV K F2 P1 (upd H1 p (.tup vs)) (.tup ds) (.ref p)
    simp only [RV]
    exact ⟨p, vs, rfl, upd_same, rv.alloc hp⟩
  · exact q1.elim
theorem eLst_ok {ms : MH} {n : Nat} {Q : VK} (hn : HLen n ms) (hz : n ≤ sizeLine) (h : tM K Z (eLst ms) σ H Q) : tLst (tH K Z ms) σ H Q := by
  obtain ⟨N, F, P, env, S, h⟩ := h
  refine ⟨N, F, P, env, S, T.ok_mono (fun N1 r1 ⟨l1, q1⟩ => ?_) (hn _ _ _ (T.ok_bind h))⟩
  intro vs H1 F1 P1 E1 S1 R1 Y1 A1
  split at q1
  · rename_i ds env1 e1
    obtain ⟨F2, E2, S2, rv⟩ := R1.freeze E1 S1 Y1 e1
    refine ⟨by rw [R1.length, l1]; exact hz, fun p hp => ?_⟩
    obtain ⟨nF, nP, nO, h0⟩ := S2.noneF hp
    refine q1 (.ref p) _ F2 P1 (E2.trans (Ext.alloc hp)) (S2.alloc hp) ⟨p, rfl, ⟨vs, upd_same, rv.alloc hp⟩, nF, nP, nO, h0⟩ ?_
    exact Young.back (h := .tmp (.lst ds)) E2 ⟨p, rfl, hp⟩
  · exact q1.elim

/-! ### a call of a def -/
structure WOk (N : Nat) (F P : Addr → Prop) (H : Hp) : Prop where
  trF : ∀ a, F a → ∃ o, H a = some o
  pot : ∀ a, P a → PotOk N (H a)
  dis : ∀ a, F a → ¬ P a
  nle : N ≤ LIM
structure CExt (F P : Addr → Prop) (H : Hp) (F' P' : Addr → Prop) (H' : Hp) : Prop where
  fF : ∀ a, F a → F' a
  pP : ∀ a, P a → P' a
  keep : ∀ b o, H b = some o → ¬ P b → H' b = some o
  newF : ∀ a, F' a → F a ∨ H a = none
  newP : ∀ a, P' a → P a ∨ H a = none
def spM (K : PySem.W.Frag) (g : List D → T D) (np : Nat) : Sp := fun vs H Q _ => ∃ N F P ds, vs.length = np ∧ RVs K F P H ds vs ∧ WOk N F P H ∧ (g ds).ok N fun N' d =>
  ∀ v H' F' P', CExt F P H F' P' H' → WOk N' F' P' H' → RV K F' P' H' d v → Q v H'
mutual
/-- no list within -/
def lf : D → Bool
  | .lst _ => false
  | .dic _ => false
  | .tup ds => lfs ds
  | .rep _ => true
  | _ => true
def lfs : List D → Bool
  | [] => true
  | d :: ds => lf d && lfs ds
end
mutual
theorem lf_rv (pP : ∀ a, P a → P' a) : ∀ (d : D) (v : V), lf d = true → RV K F P H d v → RV K F' P' H d v
  | .non, v, _, h => by simp only [RV] at h ⊢; exact h
  | .bl b, v, _, h => by simp only [RV] at h ⊢; exact h
  | .int i, v, _, h => by simp only [RV] at h ⊢; exact h
  | .str s, v, _, h => by simp only [RV] at h ⊢; exact h
  | .tup ds, v, l, h => by
    simp only [RV] at h ⊢
    obtain ⟨a, vs, e, q, r⟩ := h
    exact ⟨a, vs, e, q, lfs_rv pP ds vs (by simpa [lf] using l) r⟩
  | .lst ds, v, l, h => by simp [lf] at l
  | .dic _, v, l, h => by simp [lf] at l
  | .pot, v, _, h => by
    simp only [RV] at h ⊢
    obtain ⟨a, e, p⟩ := h
    exact ⟨a, e, pP a p⟩
  | .scr ns, v, _, h => by simp only [RV] at h ⊢; exact h
  | .rep _, v, _, h => by simp only [RV] at h
theorem lfs_rv (pP : ∀ a, P a → P' a) : ∀ (ds : List D) (vs : List V), lfs ds = true → RVs K F P H ds vs → RVs K F' P' H ds vs
  | [], vs, _, h => by simp only [RVs] at h ⊢; exact h
  | d :: ds, vs, l, h => by
    simp only [RVs] at h ⊢
    simp only [lfs, Bool.and_eq_true] at l
    obtain ⟨v, vr, e, q, r⟩ := h
    exact ⟨v, vr, e, lf_rv pP d v l.1 q, lfs_rv pP ds vr l.2 r⟩
end
def eDef (g : List D → T D) (ms : MH) : M := fun env => (ms env).bind fun r => match fzs r.2 r.1 with
  | some (ds, env') => (g ds).bind fun d => .ret (.val d, if lf d = true then r.2 else env')
  | none => .fail
theorem StR.wok (S : StR K Z N F P env σ H) : WOk N F P H := ⟨S.trF, S.pot, S.dis, S.nle⟩
theorem CExt.mon (W : WOk N F P H) (E : CExt F P H F' P' H') : Mon K F P H F' P' H' where
  fF := E.fF
  pP := E.pP
  tup := fun a xs h => by
    refine E.keep _ _ h fun p => ?_
    obtain ⟨vs, e'⟩ := (W.pot a p).lst
    rw [h] at e'; cases e'
  lst := fun a xs f h => by
    exact E.keep _ _ h (W.dis a f)
  frz := fun a o u h => by
    refine E.keep _ _ h fun p => ?_
    obtain ⟨vs, e'⟩ := (W.pot a p).lst
    rw [h] at e'; cases e'
/-- the caller's frame behind a call -/
theorem StR.after (S : StR K Z N F P env σ H) (E : CExt F P H F' P' H') (W : WOk N' F' P' H') : StR K Z N' F' P' env σ H' ∧ Ext σ env F P H env F' P' H' := by
  have m : Mon K F P H F' P' H' := E.mon S.wok
  have pk : ∀ b, P b → H' b ≠ none := fun b p z => by
    obtain ⟨vs, e⟩ := (W.pot b (E.pP b p)).lst
    rw [z] at e; cases e
  refine ⟨{ len := S.len, fz := fun i d e => ?_, ow := fun i d e => ?_, inj := S.inj, same := fun b o h p => ?_, frF := fun a h => ?_, frP := fun a h => ?_, subF := fun a h => E.fF a (S.subF a h), subP := fun a h => E.pP a (S.subP a h), trF := W.trF, pot := W.pot, dis := W.dis, nle := W.nle }, ?_⟩
  · obtain ⟨v, e1, r⟩ := S.fz i d e
    exact ⟨v, e1, r.mono m⟩
  · obtain ⟨a, e1, o, nf, np, h0⟩ := S.ow i d e
    obtain ⟨vs, ha⟩ := o.lst_of
    refine ⟨a, e1, o.mono m fun vs z => E.keep a _ z np, fun z => ?_, fun z => ?_, h0⟩
    · rcases E.newF a z with q | q
      · exact nf q
      · rw [ha] at q; cases q
    · rcases E.newP a z with q | q
      · exact np q
      · rw [ha] at q; cases q
  · have np : ¬ P b := fun z => p (E.pP b z)
    exact E.keep b o (S.same b o h np) np
  · rcases E.newF a h with q | q
    · exact S.frF a q
    · exact .inr (S.noneF q).2.2.2
  · rcases E.newP a h with q | q
    · exact S.frP a q
    · exact .inr (S.noneF q).2.2.2
  · refine ⟨E.fF, E.pP, fun _ h => h, fun i fl d e => ⟨fl, d, e⟩, fun b o h p _ => E.keep b o h p, fun a h => ?_, E.newP, fun b h => ?_⟩
    · rcases E.newF a h with q | q
      · exact .inl q
      · exact .inr (.inl q)
    · by_cases p : P b
      · exact pk b p
      · cases e : H b with
        | none => exact absurd e h
        | some o => rw [E.keep b o e p]; simp
end
end Mi
set_option Elab.async false
set_option linter.all false
set_option maxRecDepth 100000
set_option maxHeartbeats 1000000
namespace Mi
open PySem PySem.Spec PyProof.Rows L2

section
variable {K : PySem.W.Frag} {Z : Fr} {N N' N'' : Nat} {F P F' P' F'' P'' : Addr → Prop} {env env' env'' e0 : Ev} {σ : L2.St} {H H' H'' H0 : Hp} {F0 P0 : Addr → Prop}

theorem eDef_ok {g : List D → T D} {np : Nat} {ms : MH} {Q : VK} {E : XK} (hn : HLen np ms) (h : tM K Z (eDef g ms) σ H Q) : tCall (spM K g np) [] E (tH K Z ms) σ H Q := by
  obtain ⟨N, F, P, env, S, h⟩ := h
  refine ⟨N, F, P, env, S, T.ok_mono (fun N1 r1 ⟨l1, q1⟩ => ?_) (hn _ _ _ (T.ok_bind h))⟩
  intro vs H1 F1 P1 E1 S1 R1 Y1 A1
  split at q1
  · rename_i ds env1 e1
    obtain ⟨F2, E2, S2, rv, m12⟩ := R1.freeze' E1 S1 Y1 e1
    rw [List.append_nil]
    refine ⟨N1, F2, P1, ds, by rw [R1.length, l1], rv, S2.wok, T.ok_mono (fun N2 d q2 => ?_) (T.ok_bind q1)⟩
    intro v H3 F3 P3 C3 W3 rv3
    obtain ⟨S3, E3⟩ := S2.after C3 W3
    have E23 := E2.trans E3
    by_cases hl : lf d = true
    · rw [if_pos hl] at q2
      have nO : ∀ a, F1 a → ¬ Owned r1.2 σ a := fun a f o => (S1.owned o).2.1 f
      let F4 : Addr → Prop := fun a => F3 a ∧ ¬ Owned r1.2 σ a
      have f14 : ∀ a, F1 a → F4 a := fun a f => ⟨C3.fF a (m12 a f), nO a f⟩
      have kp : ∀ b o, H1 b = some o → ¬ P1 b → H3 b = some o := C3.keep
      have m14 : Mon K F1 P1 H1 F4 P3 H3 := ⟨f14, C3.pP, (CExt.mon (K := K) S2.wok C3).tup, fun a xs f h => (CExt.mon (K := K) S2.wok C3).lst a xs (m12 a f) h, (CExt.mon (K := K) S2.wok C3).frz⟩
      have S4 : StR K Z N2 F4 P3 r1.2 σ H3 := { len := S1.len, fz := fun i x e => ?_, ow := fun i x e => ?_, inj := S1.inj, same := S3.same, frF := fun a h => S3.frF a h.1, frP := S3.frP, subF := fun a h => f14 a (S1.subF a h), subP := S3.subP, trF := fun a h => S3.trF a h.1, pot := S3.pot, dis := fun a h => S3.dis a h.1, nle := S3.nle }
      · refine q2 v H3 F4 P3 ⟨fun a h => f14 a (E1.fF a h), E23.pP, E1.own, E1.slot, E23.keep, fun a h => E23.newF a h.1, E23.newP, E23.trk⟩ S4 ?_ trivial
        have rv3' : RV K F3 P3 H3 d v := rv3
        exact lf_rv (fun _ h => h) d v hl rv3'
      · obtain ⟨w, e2, r⟩ := S1.fz i x e
        exact ⟨w, e2, r.mono m14⟩
      · obtain ⟨a, e2, o, nf, np', h0⟩ := S1.ow i x e
        obtain ⟨ws, ha⟩ := o.lst_of
        refine ⟨a, e2, o.mono m14 fun zs z => kp a _ z np', fun z => z.2 ⟨i, x, e, e2⟩, fun z => ?_, h0⟩
        rcases C3.newP a z with q | q
        · exact np' q
        · rw [ha] at q; cases q
    · rw [if_neg hl] at q2
      exact q2 v H3 F3 P3 E23 S3 rv3 trivial
  · exact q1.elim

/-! ### a def -/
def startM (n : Nat) (ds : List D) : Ev := ds.map (fun d => some (false, d)) ++ List.replicate (n - ds.length) none
def mkFn (n np : Nat) (body : MS) : List D → T D := fun ds => if ds.length = np then (body (startM n ds)).bind fun r => match r.1 with
  | .rt d => .ret d
  | .nx => .ret .non
  | _ => .fail
  else .fail
theorem startM_get {n : Nat} {ds : List D} {i : Nat} {fl : Bool} {d : D} (e : (startM n ds)[i]? = some (some (fl, d))) : fl = false ∧ ds[i]? = some d := by
  unfold startM at e
  by_cases hi : i < ds.length
  · rw [List.getElem?_append_left (by simpa using hi), List.getElem?_map, List.getElem?_eq_getElem hi] at e
    have e' : (false, ds[i]) = (fl, d) := Option.some.inj (Option.some.inj e)
    cases e'
    exact ⟨rfl, List.getElem?_eq_getElem hi⟩
  · rw [List.getElem?_append_right (by simpa using hi), List.getElem?_replicate] at e
    split at e <;> cases e
theorem start_get {Nm : List Str} {vs : List V} {i : Nat} {v : V} (e : vs[i]? = some v) : (L2.start Nm vs)[i]? = some (some v) := by
  have hi := (List.getElem?_eq_some_iff.mp e).1
  unfold L2.start
  rw [List.getElem?_append_left (by simpa using hi), List.getElem?_map, e]
  rfl
theorem StR.start {Nm : List Str} {ds : List D} {vs : List V} (W : WOk N F P H) (r : RVs K F P H ds vs) : StR K ⟨H, F, P⟩ N F P (startM Nm.length ds) (L2.start Nm vs) H where
  len := by simp [startM, L2.start, r.length]
  fz := fun i d e => by
    obtain ⟨_, e1⟩ := startM_get e
    obtain ⟨v, e2, q⟩ := r.get e1
    exact ⟨v, start_get e2, q⟩
  ow := fun i d e => by
    obtain ⟨z, _⟩ := startM_get e
    cases z
  inj := fun i j d d' e => by
    obtain ⟨z, _⟩ := startM_get e
    cases z
  same := fun _ _ h _ => h
  frF := fun _ h => .inl h
  frP := fun _ h => .inl h
  subF := fun _ h => h
  subP := fun _ h => h
  trF := W.trF
  pot := W.pot
  dis := W.dis
  nle := W.nle
theorem StR.cext (W : WOk N F P H) (S : StR K ⟨H, F, P⟩ N' F' P' env σ H') : CExt F P H F' P' H' where
  fF := S.subF
  pP := S.subP
  keep := fun b o h p => S.same b o h fun p' => by
    rcases S.frP b p' with q | q
    · exact p q
    · have q' : H b = none := q
      rw [h] at q'; cases q'
  newF := S.frF
  newP := S.frP
theorem mkFn_ok {Nm : List Str} {np : Nat} {body : MS} {vs : List V} {Q : VK} {E : XK} (h : spM K (mkFn Nm.length np body) np vs H Q E) :
    ∃ Z, sM K Z body { nx := fun _ H' => Q .non H', rt := Q } (L2.start Nm vs) H := by
  obtain ⟨N, F, P, ds, hl, r, W, h⟩ := h
  refine ⟨⟨H, F, P⟩, N, F, P, startM Nm.length ds, StR.start W r, ?_⟩
  unfold mkFn at h
  split at h
  · refine T.ok_mono (fun N1 r1 q => ?_) (T.ok_bind h)
    intro σ' H' F' P' _ S
    split at q
    · rename_i d e
      rw [e]
      exact fun v rv => q v H' F' P' (S.cext W) S.wok rv
    · rename_i e
      rw [e]
      exact q .non H' F' P' (S.cext W) S.wok (by simp only [RV])
    · exact q.elim
  · exact h.elim
theorem fn_okM {Pg : Program} {w : World} {mg : Str → Option Value} {base : Heap} {x qual : Str} {st : Stmt} {f : Addr} {fd : FuncData} {Nm ps : List Str} {k : Nat} {body : MS} (Fn : Fun K x qual st f fd) (Sc : FnScope Nm ps (defScope st))
    (hb : ∀ (cdv : Value) (A : Around) (outer : List Env) (s : Shared) (H : Hp) (E : XK) (Z : Fr), Room k (A.deeper (envOfC qual (defScope st) s.heap.objs.size f cdv)) →
      PSs (cxOf CX0 Pg w K mg base Nm qual (defScope st) f cdv A outer s H E).nox (defBody st) (sM K Z body)) :
    FnOk Pg w K mg base CX0 (k + 1) f fd ps (spM K (mkFn Nm.length ps.length body) ps.length) := by
  refine Fn.ok Sc (fun vs H Q E h => ?_) (fun cdv A outer s H vs Q E hr h => ?_)
  · obtain ⟨N, F, P, ds, hl, _⟩ := h
    exact hl
  · obtain ⟨Z, q⟩ := mkFn_ok h
    exact ⟨_, hb cdv A outer s H E Z hr, q⟩
end
end Mi
set_option Elab.async false
set_option linter.all false
set_option maxRecDepth 100000
set_option maxHeartbeats 1000000
namespace Mi
open PySem PySem.Spec PyProof.Rows L2

section
variable {K : PySem.W.Frag} {Z : Fr} {N N' N'' : Nat} {F P F' P' F'' P'' : Addr → Prop} {env env' env'' e0 : Ev} {σ : L2.St} {H H' H'' H0 : Hp} {F0 P0 : Addr → Prop}

theorem Mon.refl : Mon K F P H F P H := ⟨fun _ h => h, fun _ h => h, fun _ _ h => h, fun _ _ _ h => h, fun _ _ _ h => h⟩
theorem Mon.trans (a : Mon K F P H F' P' H') (b : Mon K F' P' H' F'' P'' H'') : Mon K F P H F'' P'' H'' :=
  ⟨fun x h => b.fF x (a.fF x h), fun x h => b.pP x (a.pP x h), fun x xs h => b.tup x xs (a.tup x xs h), fun x xs f h => b.lst x xs (a.fF x f) (a.lst x xs f h), fun x o u h => b.frz x o u (a.frz x o u h)⟩

/-! ### tests -/
def mTest (m : M) : MT := fun env => (m env).bind fun r => match r.1 with
  | .val (.bl b) => .ret (b, r.2)
  | _ => .fail
theorem mTest_ok {m : M} {Q : Bool → Hp → Prop} (h : tT K Z (mTest m) σ H Q) : tM K Z m σ H fun x H' => ∃ k, x = .bl k ∧ Q k H' := by
  obtain ⟨N, F, P, env, S, h⟩ := h
  refine ⟨N, F, P, env, S, T.ok_mono (fun N1 r1 q1 => ?_) (T.ok_bind h)⟩
  intro v H1 F1 P1 E1 S1 R1 Y1
  split at q1
  · rename_i b e
    rw [e] at R1
    have R1' : RV K F1 P1 H1 (.bl b) v := R1
    simp only [RV] at R1'
    exact ⟨b, R1', q1 H1 F1 P1 E1 S1⟩
  · exact q1.elim
def truD : D → Option Bool
  | .non => some false
  | .bl b => some b
  | .int i => some (i != 0)
  | .tup l => some !l.isEmpty
  | .lst l => some !l.isEmpty
  | _ => none
def mTru (m : M) : MT := fun env => (m env).bind fun r => match rs r.2 r.1 with
  | some d => match truD d with
    | some b => .ret (b, r.2)
    | none => .fail
  | none => .fail
theorem RVs.isEmpty {ds : List D} {vs : List V} (h : RVs K F P H ds vs) : vs.isEmpty = ds.isEmpty := by
  have e := h.length
  cases ds <;> cases vs <;> simp_all
theorem truD_ok {d : D} {v : V} {b : Bool} (h : RC K F P H d v) (e : truD d = some b) : TruV K v H b := by
  cases d with
  | non =>
    cases e
    rcases h with h | ⟨a, _, o⟩
    · simp only [RV] at h; subst h; rfl
    · exact o.elim
  | bl c =>
    cases e
    rcases h with h | ⟨a, _, o⟩
    · simp only [RV] at h; subst h; rfl
    · exact o.elim
  | int i =>
    cases e
    rcases h with h | ⟨a, _, o⟩
    · simp only [RV] at h; subst h; rfl
    · exact o.elim
  | tup l =>
    cases e
    rcases h with h | ⟨a, _, o⟩
    · simp only [RV] at h
      obtain ⟨a, vs, rfl, q, r⟩ := h
      exact .inr (.inl ⟨vs, .of q, by rw [r.isEmpty]⟩)
    · exact o.elim
  | lst l =>
    cases e
    rcases h with h | ⟨a, rfl, o⟩
    · simp only [RV] at h
      obtain ⟨a, vs, rfl, f, q, r⟩ := h
      exact .inl ⟨vs, .of q, by rw [r.isEmpty]⟩
    · obtain ⟨vs, q, r⟩ := o
      exact .inl ⟨vs, .of q, by rw [r.isEmpty]⟩
  | _ => cases e
theorem mTru_ok {m : M} {Q : Bool → Hp → Prop} (h : tT K Z (mTru m) σ H Q) : tM K Z m σ H fun x H' => ∃ k, TruV K x H' k ∧ Q k H' := by
  obtain ⟨N, F, P, env, S, h⟩ := h
  refine ⟨N, F, P, env, S, T.ok_mono (fun N1 r1 q1 => ?_) (T.ok_bind h)⟩
  intro v H1 F1 P1 E1 S1 R1 Y1
  split at q1
  · rename_i d e
    split at q1
    · rename_i b e'
      exact ⟨b, truD_ok (R1.rc S1 e) e', q1 H1 F1 P1 E1 S1⟩
    · exact q1.elim
  · exact q1.elim
def mAnd (a b : MT) : MT := fun env => (a env).bind fun r => match r.1 with
  | true => b r.2
  | false => .ret (false, r.2)
def mOr (a b : MT) : MT := fun env => (a env).bind fun r => match r.1 with
  | true => .ret (true, r.2)
  | false => b r.2
def mNot (a : MT) : MT := fun env => (a env).bind fun r => .ret (!r.1, r.2)
theorem mAnd_ok {a b : MT} {Q : Bool → Hp → Prop} (h : tT K Z (mAnd a b) σ H Q) : tAnd (tT K Z a) (tT K Z b) σ H Q := by
  obtain ⟨N, F, P, env, S, h⟩ := h
  refine ⟨N, F, P, env, S, T.ok_mono (fun N1 r1 q1 => ?_) (T.ok_bind h)⟩
  intro H1 F1 P1 E1 S1
  obtain ⟨c, env1⟩ := r1
  cases c with
  | true => exact iteT ⟨N1, F1, P1, env1, S1, T.ok_mono (fun N2 r2 q2 H2 F2 P2 E2 S2 => q2 H2 F2 P2 (E1.trans E2) S2) q1⟩
  | false => exact iteF (q1 H1 F1 P1 E1 S1)
theorem mOr_ok {a b : MT} {Q : Bool → Hp → Prop} (h : tT K Z (mOr a b) σ H Q) : tOr (tT K Z a) (tT K Z b) σ H Q := by
  obtain ⟨N, F, P, env, S, h⟩ := h
  refine ⟨N, F, P, env, S, T.ok_mono (fun N1 r1 q1 => ?_) (T.ok_bind h)⟩
  intro H1 F1 P1 E1 S1
  obtain ⟨c, env1⟩ := r1
  cases c with
  | true => exact iteT (q1 H1 F1 P1 E1 S1)
  | false => exact iteF ⟨N1, F1, P1, env1, S1, T.ok_mono (fun N2 r2 q2 H2 F2 P2 E2 S2 => q2 H2 F2 P2 (E1.trans E2) S2) q1⟩
theorem mNot_ok {a : MT} {Q : Bool → Hp → Prop} (h : tT K Z (mNot a) σ H Q) : tNot (tT K Z a) σ H Q := by
  obtain ⟨N, F, P, env, S, h⟩ := h
  exact ⟨N, F, P, env, S, T.ok_mono (fun N1 r1 q1 => q1) (T.ok_bind h)⟩
/-- and, or, not as values -/
def eAnd (a b : M) : M := fun env => (a env).bind fun r => match r.1 with
  | .val (.bl true) => b r.2
  | .val (.bl false) => .ret (.val (.bl false), r.2)
  | _ => .fail
def eOr (a b : M) : M := fun env => (a env).bind fun r => match r.1 with
  | .val (.bl true) => .ret (.val (.bl true), r.2)
  | .val (.bl false) => b r.2
  | _ => .fail
def eNot (a : MT) : M := fun env => (a env).bind fun r => .ret (.val (.bl (!r.1)), r.2)
theorem Post.trans {Q : VK} {r : Hd × Ev} (E : Ext σ e0 F0 P0 H0 env F P H) : Post K Z σ e0 F0 P0 H0 Q N' r → Post K Z σ env F P H Q N' r := fun h => h.from E
theorem eAnd_ok {a b : M} {Q : VK} (h : tM K Z (eAnd a b) σ H Q) : tAndV (tM K Z a) (tM K Z b) σ H Q := by
  obtain ⟨N, F, P, env, S, h⟩ := h
  refine ⟨N, F, P, env, S, T.ok_mono (fun N1 r1 q1 => ?_) (T.ok_bind h)⟩
  intro v H1 F1 P1 E1 S1 R1 Y1
  obtain ⟨c, env1⟩ := r1
  dsimp only at q1
  split at q1
  · have R1' : RV K F1 P1 H1 (.bl true) v := R1
    simp only [RV] at R1'
    exact ⟨true, R1', iteT ⟨N1, F1, P1, env1, S1, T.ok_mono (fun N2 r2 q2 => Post.from (r := r2) E1 q2) q1⟩⟩
  · have R1' : RV K F1 P1 H1 (.bl false) v := R1
    simp only [RV] at R1'
    exact ⟨false, R1', iteF (q1 (.bl false) H1 F1 P1 E1 S1 (by show RV K F1 P1 H1 (.bl false) _; simp only [RV]) trivial)⟩
  · exact q1.elim
theorem eOr_ok {a b : M} {Q : VK} (h : tM K Z (eOr a b) σ H Q) : tOrV (tM K Z a) (tM K Z b) σ H Q := by
  obtain ⟨N, F, P, env, S, h⟩ := h
  refine ⟨N, F, P, env, S, T.ok_mono (fun N1 r1 q1 => ?_) (T.ok_bind h)⟩
  intro v H1 F1 P1 E1 S1 R1 Y1
  obtain ⟨c, env1⟩ := r1
  dsimp only at q1
  split at q1
  · have R1' : RV K F1 P1 H1 (.bl true) v := R1
    simp only [RV] at R1'
    exact ⟨true, R1', iteT (q1 (.bl true) H1 F1 P1 E1 S1 (by show RV K F1 P1 H1 (.bl true) _; simp only [RV]) trivial)⟩
  · have R1' : RV K F1 P1 H1 (.bl false) v := R1
    simp only [RV] at R1'
    exact ⟨false, R1', iteF ⟨N1, F1, P1, env1, S1, T.ok_mono (fun N2 r2 q2 => Post.from (r := r2) E1 q2) q1⟩⟩
  · exact q1.elim
def eIf (c : MT) (a b : M) : M := fun env => (c env).bind fun r => match r.1 with
  | true => a r.2
  | false => b r.2
theorem eIf_ok {c : MT} {a b : M} {Q : VK} (h : tM K Z (eIf c a b) σ H Q) : tIf (tT K Z c) (tM K Z a) (tM K Z b) σ H Q := by
  obtain ⟨N, F, P, env, S, h⟩ := h
  refine ⟨N, F, P, env, S, T.ok_mono (fun N1 r1 q1 => ?_) (T.ok_bind h)⟩
  intro H1 F1 P1 E1 S1
  obtain ⟨c, env1⟩ := r1
  cases c with
  | true => exact iteT ⟨N1, F1, P1, env1, S1, T.ok_mono (fun N2 r2 q2 => Post.from (r := r2) E1 q2) q1⟩
  | false => exact iteF ⟨N1, F1, P1, env1, S1, T.ok_mono (fun N2 r2 q2 => Post.from (r := r2) E1 q2) q1⟩

/-! ### statements -/
def PostS (K : PySem.W.Frag) (Z : Fr) (D : Ends) (F0 P0 : Addr → Prop) (H0 : Hp) (N' : Nat) (r : Fl × Ev) : Prop :=
  ∀ σ' H' F' P', Mon K F0 P0 H0 F' P' H' → StR K Z N' F' P' r.2 σ' H' → EndsM K D N' F' P' σ' H' r.1
theorem PostS.from {D : Ends} {r : Fl × Ev} (m : Mon K F0 P0 H0 F P H) (h : PostS K Z D F0 P0 H0 N' r) : PostS K Z D F P H N' r :=
  fun σ' H' F' P' m' S' => h σ' H' F' P' (m.trans m') S'
def sNext : MS := fun env => .ret (.nx, env)
def sBreak : MS := fun env => .ret (.bk, env)
def sCont : MS := fun env => .ret (.ct, env)
theorem sNext_ok {D : Ends} (h : sM K Z sNext D σ H) : tNext D σ H := by
  obtain ⟨N, F, P, env, S, h⟩ := h
  exact h σ H F P Mon.refl S
theorem sBreak_ok {D : Ends} (h : sM K Z sBreak D σ H) : tBreak D σ H := by
  obtain ⟨N, F, P, env, S, h⟩ := h
  exact h σ H F P Mon.refl S
theorem sCont_ok {D : Ends} (h : sM K Z sCont D σ H) : tCont D σ H := by
  obtain ⟨N, F, P, env, S, h⟩ := h
  exact h σ H F P Mon.refl S
def sSeq (a b : MS) : MS := fun env => (a env).bind fun r => match r.1 with
  | .nx => b r.2
  | f => .ret (f, r.2)
theorem sSeq_ok {a b : MS} {D : Ends} (h : sM K Z (sSeq a b) D σ H) : tSeq (sM K Z a) (sM K Z b) D σ H := by
  obtain ⟨N, F, P, env, S, h⟩ := h
  refine ⟨N, F, P, env, S, T.ok_mono (fun N1 r1 q1 => ?_) (T.ok_bind h)⟩
  intro σ' H' F' P' m S'
  obtain ⟨f, env1⟩ := r1
  cases f with
  | nx => exact ⟨N1, F', P', env1, S', T.ok_mono (fun N2 r2 q2 => PostS.from (r := r2) m q2) q1⟩
  | bk => exact q1 σ' H' F' P' m S'
  | ct => exact q1 σ' H' F' P' m S'
  | rt d => exact q1 σ' H' F' P' m S'
def sIf (c : MT) (a b : MS) : MS := fun env => (c env).bind fun r => match r.1 with
  | true => a r.2
  | false => b r.2
theorem sIf_ok {c : MT} {a b : MS} {D : Ends} (h : sM K Z (sIf c a b) D σ H) : tIfS (tT K Z c) (sM K Z a) (sM K Z b) D σ H := by
  obtain ⟨N, F, P, env, S, h⟩ := h
  refine ⟨N, F, P, env, S, T.ok_mono (fun N1 r1 q1 => ?_) (T.ok_bind h)⟩
  intro H1 F1 P1 E1 S1
  obtain ⟨c, env1⟩ := r1
  cases c with
  | true => exact iteT ⟨N1, F1, P1, env1, S1, T.ok_mono (fun N2 r2 q2 => PostS.from (r := r2) (E1.mon S) q2) q1⟩
  | false => exact iteF ⟨N1, F1, P1, env1, S1, T.ok_mono (fun N2 r2 q2 => PostS.from (r := r2) (E1.mon S) q2) q1⟩
def sRet (m : M) : MS := fun env => (m env).bind fun r => match fz r.2 r.1 with
  | some (d, env') => .ret (.rt d, env')
  | none => .fail
theorem sRet_ok {m : M} {D : Ends} (h : sM K Z (sRet m) D σ H) : tRet (tM K Z m) D σ H := by
  obtain ⟨N, F, P, env, S, h⟩ := h
  refine ⟨N, F, P, env, S, T.ok_mono (fun N1 r1 q1 => ?_) (T.ok_bind h)⟩
  intro v H1 F1 P1 E1 S1 R1 Y1
  split at q1
  · rename_i d env1 e
    obtain ⟨F2, E2, S2, rv⟩ := R1.freeze E1 S1 Y1 e
    exact q1 σ H1 F2 P1 (E2.mon S) S2 v rv
  · exact q1.elim
def sRetN : MS := fun env => .ret (.rt .non, env)
theorem sRetN_ok {D : Ends} (h : sM K Z sRetN D σ H) : tRetN D σ H := by
  obtain ⟨N, F, P, env, S, h⟩ := h
  exact h σ H F P Mon.refl S .non (by simp only [RV])
def sNever : MS := fun _ => .fail
theorem sNever_ok {D : Ends} (h : sM K Z sNever D σ H) : tNever D σ H := by
  obtain ⟨N, F, P, env, S, h⟩ := h
  exact h.elim
/-- an expression whose value is dropped -/
def sDrop (m : M) : MS := fun env => (m env).bind fun r => .ret (.nx, r.2)
theorem sDrop_ok {m : M} {D : Ends} (h : sM K Z (sDrop m) D σ H) : tDrop (tM K Z m) D σ H := by
  obtain ⟨N, F, P, env, S, h⟩ := h
  refine ⟨N, F, P, env, S, T.ok_mono (fun N1 r1 q1 => ?_) (T.ok_bind h)⟩
  intro v H1 F1 P1 E1 S1 R1 Y1
  exact q1 σ H1 F1 P1 (E1.mon S) S1

/-! ### a name is stored -/
/-- a name's slot takes a handle -/
def put (i : Nat) (r : Hd × Ev) : Option Ev := if i < r.2.length then match r.1 with
  | .val d => some (r.2.set i (some (false, d)))
  | .tmp d => some (r.2.set i (some (true, d)))
  | .slot j => match fz r.2 (.slot j) with
    | some (d, env') => some (env'.set i (some (false, d)))
    | none => none
  else none
theorem StR.set {i : Nat} {d : D} {v : V} (S : StR K Z N F P env σ H) (hi : i < env.length) (r : RV K F P H d v) : StR K Z N F P (env.set i (some (false, d))) (σ.set i (some v)) H := by
  have hσ : i < σ.length := by rw [← S.len]; exact hi
  have sub : ∀ j x, (env.set i (some (false, d)))[j]? = some (some (true, x)) → env[j]? = some (some (true, x)) ∧ i ≠ j := fun j x q => by
    by_cases hj : i = j
    · subst hj; rw [List.getElem?_set_self hi] at q; cases q
    · rw [List.getElem?_set_ne hj] at q; exact ⟨q, hj⟩
  refine { len := by simpa using S.len, fz := fun j x q => ?_, ow := fun j x q => ?_, inj := fun j k x y q q' z => ?_, same := S.same, frF := S.frF, frP := S.frP, subF := S.subF, subP := S.subP, trF := S.trF, pot := S.pot, dis := S.dis, nle := S.nle }
  · by_cases hj : i = j
    · subst hj
      rw [List.getElem?_set_self hi] at q; cases q
      exact ⟨v, List.getElem?_set_self hσ, r⟩
    · rw [List.getElem?_set_ne hj] at q ⊢
      exact S.fz j x q
  · obtain ⟨q, hj⟩ := sub j x q
    rw [List.getElem?_set_ne hj]
    exact S.ow j x q
  · obtain ⟨q, hj⟩ := sub j x q
    obtain ⟨q', hk⟩ := sub k y q'
    rw [List.getElem?_set_ne hj, List.getElem?_set_ne hk] at z
    exact S.inj j k x y q q' z
theorem StR.setO {i : Nat} {d : D} {a : Addr} (S : StR K Z N F P env σ H) (hi : i < env.length) (o : Own K F P H a d) (nf : ¬ F a) (np : ¬ P a) (no : ¬ Owned env σ a) (h0 : Z.H0 a = none) :
    StR K Z N F P (env.set i (some (true, d))) (σ.set i (some (.ref a))) H := by
  have hσ : i < σ.length := by rw [← S.len]; exact hi
  refine { len := by simpa using S.len, fz := fun j x q => ?_, ow := fun j x q => ?_, inj := fun j k x y q q' z => ?_, same := S.same, frF := S.frF, frP := S.frP, subF := S.subF, subP := S.subP, trF := S.trF, pot := S.pot, dis := S.dis, nle := S.nle }
  · by_cases hj : i = j
    · subst hj; rw [List.getElem?_set_self hi] at q; cases q
    · rw [List.getElem?_set_ne hj] at q ⊢
      exact S.fz j x q
  · by_cases hj : i = j
    · subst hj
      rw [List.getElem?_set_self hi] at q; cases q
      exact ⟨a, List.getElem?_set_self hσ, o, nf, np, h0⟩
    · rw [List.getElem?_set_ne hj] at q ⊢
      exact S.ow j x q
  · by_cases hj : i = j
    · by_cases hk : i = k
      · exact hj.symm.trans hk
      · subst hj
        rw [List.getElem?_set_ne hk] at q' z
        rw [List.getElem?_set_self hσ] at z
        exact (no ⟨k, y, q', z.symm⟩).elim
    · by_cases hk : i = k
      · subst hk
        rw [List.getElem?_set_ne hj] at q z
        rw [List.getElem?_set_self hσ] at z
        exact (no ⟨j, x, q, z⟩).elim
      · rw [List.getElem?_set_ne hj] at q z
        rw [List.getElem?_set_ne hk] at q' z
        exact S.inj j k x y q q' z
theorem RH.put {i : Nat} {h : Hd} {v : V} (E : Ext σ e0 F0 P0 H0 env F P H) (S : StR K Z N F P env σ H) (Y : Young H0 h v) (R : RH K Z F P env σ H h v) (e : put i (h, env) = some env') :
    ∃ F', (∀ a, F a → F' a) ∧ Mon K F P H F' P H ∧ StR K Z N F' P env' (σ.set i (some v)) H := by
  unfold Mi.put at e
  split at e
  · rename_i hi
    dsimp only at e hi
    cases h with
    | val d =>
      cases e
      exact ⟨F, fun _ h => h, Mon.refl, S.set hi R⟩
    | tmp d =>
      cases e
      obtain ⟨a, rfl, o, nf, np, no, h0⟩ := R
      exact ⟨F, fun _ h => h, Mon.refl, S.setO hi o nf np no h0⟩
    | slot j =>
      dsimp only at e
      split at e
      · rename_i d env1 q
        cases e
        obtain ⟨F', E', S', rv, m, _⟩ := RHw.freeze (e0 := e0) E S Y R.w q
        have hl : env1.length = env.length := by rw [S'.len, S.len]
        exact ⟨F', m.fF, m, S'.set (by rw [hl]; exact hi) rv⟩
      · cases e
  · cases e
def sSet (i : Nat) (m : M) : MS := fun env => (m env).bind fun r => match put i r with
  | some env' => .ret (.nx, env')
  | none => .fail
theorem sSet_ok {i : Nat} {m : M} {D : Ends} (h : sM K Z (sSet i m) D σ H) : tAsg (tM K Z m) (gName i) D σ H := by
  obtain ⟨N, F, P, env, S, h⟩ := h
  refine ⟨N, F, P, env, S, T.ok_mono (fun N1 r1 q1 => ?_) (T.ok_bind h)⟩
  intro v H1 F1 P1 E1 S1 R1 Y1
  split at q1
  · rename_i env2 e
    obtain ⟨F2, _, m2, S2⟩ := RH.put E1 S1 Y1 R1 e
    exact q1 _ H1 F2 P1 ((E1.mon S).trans m2) S2
  · exact q1.elim
end
end Mi
set_option Elab.async false
set_option linter.all false
set_option maxRecDepth 100000
set_option maxHeartbeats 1000000
namespace Mi
open PySem PySem.Spec PyProof.Rows L2

section
variable {K : PySem.W.Frag} {Z : Fr} {N N' N'' : Nat} {F P F' P' F'' P'' : Addr → Prop} {env env' env'' e0 : Ev} {σ : L2.St} {H H' H'' H0 : Hp} {F0 P0 : Addr → Prop}

/-! ### targets -/
abbrev GM := D → Ev → Option Ev
/-- what a target's store leaves: sl, the slots that it may change -/
structure GoK (sl : List Nat) (env : Ev) (σ : L2.St) (env' : Ev) (σ' : L2.St) : Prop where
  at_ : ∀ j, j ∉ sl → σ'[j]? = σ[j]?
  len : σ'.length = σ.length
  own : ∀ b, Owned env' σ' b → Owned env σ b
  slot : ∀ (i : Nat) fl x, env[i]? = some (some (fl, x)) → ∃ fl x, env'[i]? = some (some (fl, x))
theorem owned_set {i : Nat} {x : Slot} {y : Option V} {b : Addr} (o : Owned (env.set i x) (σ.set i y) b) : Owned env σ b ∨ (y = some (.ref b) ∧ ∃ d, x = some (true, d)) := by
  obtain ⟨j, d, e1, e2⟩ := o
  by_cases hj : i = j
  · subst hj
    have h1 : i < env.length := by
      have := (List.getElem?_eq_some_iff.mp e1).1
      simpa using this
    have h2 : i < σ.length := by
      have := (List.getElem?_eq_some_iff.mp e2).1
      simpa using this
    rw [List.getElem?_set_self h1] at e1
    rw [List.getElem?_set_self h2] at e2
    cases e1; cases e2
    exact .inr ⟨rfl, d, rfl⟩
  · rw [List.getElem?_set_ne hj] at e1 e2
    exact .inl ⟨j, d, e1, e2⟩
def GOk (K : PySem.W.Frag) (t : TG) (g : GM) (sl : List Nat) : Prop := ∀ {Z : Fr} {N : Nat} {F P : Addr → Prop} {env env' : Ev} {σ : L2.St} {H : Hp} {d : D} {v : V} {Q : L2.St → Hp → Prop},
  StR K Z N F P env σ H → RV K F P H d v → g d env = some env' → (∀ σ', GoK sl env σ env' σ' → StR K Z N F P env' σ' H → Q σ' H) → t v σ H Q
def GsOk (K : PySem.W.Frag) (t : TGs) (g : List D → Ev → Option Ev) (sl : List Nat) : Prop := ∀ {Z : Fr} {N : Nat} {F P : Addr → Prop} {env env' : Ev} {σ : L2.St} {H : Hp} {d : List D} {v : List V} {Q : L2.St → Hp → Prop},
  StR K Z N F P env σ H → RVs K F P H d v → g d env = some env' → (∀ σ', GoK sl env σ env' σ' → StR K Z N F P env' σ' H → Q σ' H) → t v σ H Q
def gNm (i : Nat) : GM := fun d env => if i < env.length then some (env.set i (some (false, d))) else none
theorem gNm_ok {i : Nat} : GOk K (gName i) (gNm i) [i] := by
  intro Z N F P env env' σ H d v Q S r e q
  unfold gNm at e
  split at e
  · rename_i hi
    cases e
    refine q _ ⟨fun j hj => ?_, by simp, fun b o => ?_, fun j fl x e => ?_⟩ (S.set hi r)
    · rw [List.getElem?_set_ne (fun z => hj (by simp [z]))]
    · rcases owned_set o with o | ⟨_, d, z⟩
      · exact o
      · cases z
    · by_cases hj : i = j
      · subst hj; exact ⟨_, _, List.getElem?_set_self hi⟩
      · rw [List.getElem?_set_ne hj]; exact ⟨fl, x, e⟩
  · cases e
def gsNil : List D → Ev → Option Ev := fun ds env => match ds with
  | [] => some env
  | _ => none
def gsCons (g : GM) (gs : List D → Ev → Option Ev) : List D → Ev → Option Ev := fun ds env => match ds with
  | d :: ds => (g d env).bind (gs ds)
  | [] => none
theorem gsNil_ok : GsOk K gNil gsNil [] := by
  intro Z N F P env env' σ H d v Q S r e q
  unfold gsNil at e
  split at e
  · cases e
    rw [r.unnil]
    exact ⟨rfl, q σ ⟨fun _ _ => rfl, rfl, fun _ h => h, fun i fl x e => ⟨fl, x, e⟩⟩ S⟩
  · cases e
theorem gsCons_ok {t : TG} {g : GM} {ts : TGs} {gs : List D → Ev → Option Ev} {sl sls : List Nat} (h : GOk K t g sl) (hs : GsOk K ts gs sls) : GsOk K (gCons t ts) (gsCons g gs) (sl ++ sls) := by
  intro Z N F P env env' σ H d v Q S r e q
  unfold gsCons at e
  split at e
  · rename_i d ds
    obtain ⟨x, xr, rfl, r1, rr⟩ := r.uncons
    cases e1 : g d env with
    | none => rw [e1] at e; cases e
    | some env1 =>
      rw [e1] at e
      have e : gs ds env1 = some env' := e
      refine ⟨x, xr, rfl, h S r1 e1 fun σ1 k1 S1 => hs S1 rr e fun σ2 k2 S2 => q σ2 ⟨fun j hj => ?_, k2.len.trans k1.len, fun b o => k1.own b (k2.own b o), fun i fl x e => ?_⟩ S2⟩
      · simp only [List.mem_append, not_or] at hj
        rw [k2.at_ j hj.2, k1.at_ j hj.1]
      · obtain ⟨fl1, x1, e1⟩ := k1.slot i fl x e
        exact k2.slot i fl1 x1 e1
  · cases e
def gTp (n : Nat) (gs : List D → Ev → Option Ev) : GM := fun d env => match d with
  | .tup ds => if ds.length = n then gs ds env else none
  | .lst ds => if ds.length = n then gs ds env else none
  | _ => none
/-- a tuple or a list is taken apart -/
def gSeq (K : PySem.W.Frag) (n : Nat) (t : TGs) : TG := fun v σ H Q => gTup K n t v σ H Q ∨ gLst K n t v σ H Q
theorem gTp_ok {n : Nat} {ts : TGs} {gs : List D → Ev → Option Ev} {sl : List Nat} (h : GsOk K ts gs sl) : GOk K (gSeq K n ts) (gTp n gs) sl := by
  intro Z N F P env env' σ H d v Q S r e q
  unfold gTp at e
  split at e
  · rename_i ds
    split at e
    · rename_i hl
      simp only [RV] at r
      obtain ⟨a, vs, rfl, sq, rs⟩ := r
      exact .inl ⟨a, vs, rfl, .of sq, by rw [rs.length, hl], h S rs e q⟩
    · cases e
  · rename_i ds
    split at e
    · rename_i hl
      simp only [RV] at r
      obtain ⟨a, vs, rfl, f, sq, rs⟩ := r
      exact .inr ⟨a, vs, rfl, .of sq, by rw [rs.length, hl], h S rs e q⟩
    · cases e
  · cases e
theorem pg_seq {X : Cx} {es : List Expr} {k : Nat} {pos : Pos} {t : TGs} {n : Nat} (hc : X.calm = true) (h : PGs X es t)
    (hn : (assignEach es X.env).length = n) (hst : (assignEach es X.env).findIdx? (·.1) = none) : PG X (.Tuple es k pos) (gSeq X.K n t) :=
  ⟨fun pins s σ H v u Q I r hw => hw.elim ((pg_tup (pos := pos) (k := k) hc h hn hst).run pins s σ H v u Q I r) ((pg_lst (pos := pos) (k := k) hc h hn hst).run pins s σ H v u Q I r)⟩

/-- target = value -/
def sAsg (m : M) (g : GM) : MS := fun env => (m env).bind fun r => match fz r.2 r.1 with
  | some (d, env1) => match g d env1 with
    | some env2 => .ret (.nx, env2)
    | none => .fail
  | none => .fail
theorem sAsg_ok {m : M} {t : TG} {g : GM} {sl : List Nat} {D : Ends} (hg : GOk K t g sl) (h : sM K Z (sAsg m g) D σ H) : tAsg (tM K Z m) t D σ H := by
  obtain ⟨N, F, P, env, S, h⟩ := h
  refine ⟨N, F, P, env, S, T.ok_mono (fun N1 r1 q1 => ?_) (T.ok_bind h)⟩
  intro v H1 F1 P1 E1 S1 R1 Y1
  split at q1
  · rename_i d env1 e
    obtain ⟨F2, E2, S2, rv⟩ := R1.freeze E1 S1 Y1 e
    split at q1
    · rename_i env2 e2
      exact hg S2 rv e2 fun σ' _ S3 => q1 σ' H1 F2 P1 (E2.mon S) S3
    · exact q1.elim
  · exact q1.elim

/-! ### a, b = x, y -/
def noSlot : Hd → Bool
  | .slot _ => false
  | _ => true
def unslot (e : Ev) : List Hd → Option (List Hd × Ev)
  | [] => some ([], e)
  | .slot i :: hs => match fz e (.slot i) with
    | some (d, e') => match unslot e' hs with
      | some (hs', e'') => some (.val d :: hs', e'')
      | none => none
    | none => none
  | h :: hs => match unslot e hs with
    | some (hs', e'') => some (h :: hs', e'')
    | none => none
def puts : List Nat → List Hd → Ev → Option Ev
  | [], [], env => some env
  | i :: is, .val d :: hs, env => if i < env.length then puts is hs (env.set i (some (false, d))) else none
  | i :: is, .tmp d :: hs, env => if i < env.length then puts is hs (env.set i (some (true, d))) else none
  | _, _, _ => none
def setAll : L2.St → List Nat → List V → L2.St
  | σ, i :: is, v :: vs => setAll (σ.set i (some v)) is vs
  | σ, _, _ => σ
theorem RH.reF (m : Mon K F P H F' P H) (hF : ∀ a, F' a → F a ∨ Owned env σ a) (ow : ∀ b, Owned env' σ b → Owned env σ b) (sl : ∀ (i : Nat) fl x, env[i]? = some (some (fl, x)) → ∃ fl x, env'[i]? = some (some (fl, x))) :
    ∀ {h : Hd} {v : V}, RH K Z F P env σ H h v → RH K Z F' P env' σ H h v
  | .val d, v, h => RV.mono m d v h
  | .tmp d, v, ⟨a, e, o, nf, np, no, h0⟩ => ⟨a, e, o.mono m fun _ h => h, fun z => (hF a z).elim nf no, np, fun z => no (ow a z), h0⟩
  | .slot i, v, ⟨e1, fl, d, e2⟩ => ⟨e1, sl i fl d e2⟩
theorem RHs.reF (m : Mon K F P H F' P H) (hF : ∀ a, F' a → F a ∨ Owned env σ a) (ow : ∀ b, Owned env' σ b → Owned env σ b) (sl : ∀ (i : Nat) fl x, env[i]? = some (some (fl, x)) → ∃ fl x, env'[i]? = some (some (fl, x))) :
    ∀ {h : List Hd} {v : List V}, RHs K Z F P env σ H h v → RHs K Z F' P env' σ H h v
  | [], v, h => h
  | h :: hs, v, ⟨x, xr, e, r, rr⟩ => ⟨x, xr, e, r.reF m hF ow sl, RHs.reF m hF ow sl rr⟩
/-- a slot is frozen -/
theorem StR.fzSlot {i : Nat} {d : D} {v : V} (S : StR K Z N F P env σ H) (R : RH K Z F P env σ H (.slot i) v) (e : Mi.fz env (.slot i) = some (d, env')) :
    ∃ F', StR K Z N F' P env' σ H ∧ RV K F' P H d v ∧ Mon K F P H F' P H ∧ (∀ a, F' a → F a ∨ Owned env σ a) ∧ (∀ b, Owned env' σ b → Owned env σ b) ∧
      ∀ (i : Nat) fl x, env[i]? = some (some (fl, x)) → ∃ fl x, env'[i]? = some (some (fl, x)) := by
  obtain ⟨F', E', S', rv, m, ow, sl⟩ := RHw.freeze (e0 := env) (F0 := F) (P0 := P) (H0 := H) Ext.refl S (show Young H (.slot i) v from trivial) R.w e
  refine ⟨F', S', rv, m, fun a h => ?_, ow, sl⟩
  rcases E'.newF a h with q | q | q
  · exact .inl q
  · obtain ⟨o, z⟩ := S'.trF a h
    rw [q] at z; cases z
  · exact .inr q
theorem unslot_ok : ∀ {hs : List Hd} {vs : List V} {hs' : List Hd} {env env' : Ev} {F : Addr → Prop}, StR K Z N F P env σ H → RHs K Z F P env σ H hs vs → Apart hs vs → unslot env hs = some (hs', env') →
    ∃ F', StR K Z N F' P env' σ H ∧ RHs K Z F' P env' σ H hs' vs ∧ Apart hs' vs ∧ Mon K F P H F' P H ∧ (∀ a, F' a → F a ∨ Owned env σ a) ∧ (∀ b, Owned env' σ b → Owned env σ b) ∧
      (∀ (i : Nat) fl x, env[i]? = some (some (fl, x)) → ∃ fl x, env'[i]? = some (some (fl, x))) ∧ (∀ (i : Nat) d, hs'[i]? = some (.tmp d) → hs[i]? = some (.tmp d))
  | [], vs, hs', env, env', F, S, R, A, e => by
    cases e
    exact ⟨F, S, R, A, Mon.refl, fun _ h => .inl h, fun _ h => h, fun i fl x e => ⟨fl, x, e⟩, fun _ _ h => h⟩
  | .slot i :: hs, vs, hs', env, env', F, S, R, A, e => by
    obtain ⟨v, vr, rfl, r, rr⟩ := R
    simp only [unslot] at e
    split at e
    · rename_i d env1 q
      split at e
      · rename_i hs1 env2 q2
        cases e
        obtain ⟨F1, S1, rv, m1, n1, ow1, sl1⟩ := S.fzSlot r q
        obtain ⟨F2, S2, R2, A2, m2, n2, ow2, sl2, t2⟩ := unslot_ok S1 (rr.reF m1 n1 ow1 sl1) A q2
        refine ⟨F2, S2, ⟨v, vr, rfl, rv.mono m2, R2⟩, A2, m1.trans m2, fun a h => ?_, fun b h => ow1 b (ow2 b h), fun i fl x e => ?_, fun j d e => ?_⟩
        · rcases n2 a h with z | z
          · exact n1 a z
          · exact .inr (ow1 a z)
        · obtain ⟨fl', x', e'⟩ := sl1 i fl x e
          exact sl2 i fl' x' e'
        · cases j with
          | zero => simp at e
          | succ j => simpa using t2 j d (by simpa using e)
      · cases e
    · cases e
  | .val d :: hs, vs, hs', env, env', F, S, R, A, e => by
    obtain ⟨v, vr, rfl, r, rr⟩ := R
    simp only [unslot] at e
    split at e
    · rename_i hs1 env2 q2
      cases e
      obtain ⟨F2, S2, R2, A2, m2, n2, ow2, sl2, t2⟩ := unslot_ok S rr A q2
      refine ⟨F2, S2, ⟨v, vr, rfl, RV.mono m2 d v r, R2⟩, A2, m2, n2, ow2, sl2, fun j d e => ?_⟩
      cases j with
      | zero => simp at e
      | succ j => simpa using t2 j d (by simpa using e)
    · cases e
  | .tmp d :: hs, vs, hs', env, env', F, S, R, A, e => by
    obtain ⟨v, vr, rfl, r, rr⟩ := R
    simp only [unslot] at e
    split at e
    · rename_i hs1 env2 q2
      cases e
      obtain ⟨F2, S2, R2, A2, m2, n2, ow2, sl2, t2⟩ := unslot_ok S rr A.2 q2
      refine ⟨F2, S2, ⟨v, vr, rfl, r.reF m2 n2 ow2 sl2, R2⟩, ⟨fun i ⟨d', e'⟩ => A.1 i ⟨d', t2 i d' e'⟩, A2⟩, m2, n2, ow2, sl2, fun j d e => ?_⟩
      cases j with
      | zero => simpa using e
      | succ j => simpa using t2 j d (by simpa using e)
    · cases e
theorem RHs.get : ∀ {hs : List Hd} {vs : List V} {i : Nat} {v : V}, RHs K Z F P env σ H hs vs → vs[i]? = some v → ∃ h, hs[i]? = some h ∧ RH K Z F P env σ H h v
  | [], vs, i, v, h, e => by
    have h' : vs = [] := h
    subst h'; simp at e
  | h :: hs, vs, 0, w, ⟨v, vr, ev, r, rr⟩, e => by
    subst ev
    simp at e; subst e
    exact ⟨h, rfl, r⟩
  | h :: hs, vs, i + 1, w, ⟨v, vr, ev, r, rr⟩, e => by
    subst ev
    obtain ⟨h', e', r'⟩ := RHs.get (i := i) rr (by simpa using e)
    exact ⟨h', by simpa using e', r'⟩
/-- values and temporaries do not hang on the slots -/
theorem RHs.set {i : Nat} {x : Slot} {y : Option V} : ∀ {hs : List Hd} {vs : List V}, hs.all noSlot = true → RHs K Z F P env σ H hs vs →
    (∀ (j : Nat) b d d', x = some (true, d) → y = some (.ref b) → hs[j]? = some (.tmp d') → vs[j]? ≠ some (.ref b)) → RHs K Z F P (env.set i x) (σ.set i y) H hs vs
  | [], vs, _, h, _ => h
  | h :: hs, vs, l, ⟨v, vr, e, r, rr⟩, ap => by
    subst e
    simp only [List.all_cons, Bool.and_eq_true] at l
    refine ⟨v, vr, rfl, ?_, RHs.set l.2 rr fun j b d d' h1 h2 h3 => by simpa using ap (j + 1) b d d' h1 h2 (by simpa using h3)⟩
    cases h with
    | val d => exact r
    | slot i => exact absurd l.1 (by simp [noSlot])
    | tmp d =>
      obtain ⟨a, e, o, nf, np, no, h0⟩ := r
      subst e
      refine ⟨a, rfl, o, nf, np, fun z => ?_, h0⟩
      rcases owned_set z with z | ⟨z1, d', z2⟩
      · exact no z
      · exact ap 0 a d' d z2 z1 rfl rfl
theorem puts_ok : ∀ {is : List Nat} {hs : List Hd} {vs : List V} {env env' : Ev} {σ : L2.St}, StR K Z N F P env σ H → hs.all noSlot = true → RHs K Z F P env σ H hs vs → Apart hs vs → puts is hs env = some env' → StR K Z N F P env' (setAll σ is vs) H
  | [], [], vs, env, env', σ, S, l, R, A, e => by
    cases e
    have R' : vs = [] := R
    subst R'
    exact S
  | [], _ :: _, vs, env, env', σ, S, l, R, A, e => by cases e
  | i :: is, [], vs, env, env', σ, S, l, R, A, e => by cases e
  | i :: is, .val d :: hs, vs, env, env', σ, S, l, R, A, e => by
    obtain ⟨v, vr, rfl, r, rr⟩ := R
    simp only [puts] at e
    split at e
    · rename_i hi
      simp only [List.all_cons, Bool.and_eq_true] at l
      show StR K Z N F P env' (setAll (σ.set i (some v)) is vr) H
      exact puts_ok (S.set hi r) l.2 (rr.set l.2 fun j b d d' h => by cases h) A e
    · cases e
  | i :: is, .tmp d :: hs, vs, env, env', σ, S, l, R, A, e => by
    obtain ⟨v, vr, rfl, r, rr⟩ := R
    simp only [puts] at e
    split at e
    · rename_i hi
      simp only [List.all_cons, Bool.and_eq_true] at l
      obtain ⟨a, rfl, o, nf, np, no, h0⟩ := r
      show StR K Z N F P env' (setAll (σ.set i (some (.ref a))) is vr) H
      refine puts_ok (S.setO hi o nf np no h0) l.2 (rr.set l.2 fun j b d d' h1 h2 h3 => ?_) A.2 e
      cases h2
      exact A.1 j ⟨d', h3⟩
    · cases e
  | i :: is, .slot j :: hs, vs, env, env', σ, S, l, R, A, e => by cases e
theorem unslot_noSlot : ∀ {hs hs' : List Hd} {env env' : Ev}, unslot env hs = some (hs', env') → hs'.all noSlot = true
  | [], hs', env, env', e => by cases e; rfl
  | .slot i :: hs, hs', env, env', e => by
    simp only [unslot] at e
    split at e
    · split at e
      · rename_i q
        cases e
        simp [noSlot, unslot_noSlot q]
      · cases e
    · cases e
  | .val d :: hs, hs', env, env', e => by
    simp only [unslot] at e
    split at e
    · rename_i q
      cases e
      simp [noSlot, unslot_noSlot q]
    · cases e
  | .tmp d :: hs, hs', env, env', e => by
    simp only [unslot] at e
    split at e
    · rename_i q
      cases e
      simp [noSlot, unslot_noSlot q]
    · cases e
def sPar (is : List Nat) (ms : MH) : MS := fun env => (ms env).bind fun r => match unslot r.2 r.1 with
  | some (hs, env1) => match puts is hs env1 with
    | some env2 => .ret (.nx, env2)
    | none => .fail
  | none => .fail
theorem sPar_ok {is : List Nat} {ms : MH} {n : Nat} {D : Ends} (hn : HLen n ms) (h : sM K Z (sPar is ms) D σ H) : tH K Z ms σ H fun vs H1 => vs.length = n ∧ D.nx (setAll σ is vs) H1 := by
  obtain ⟨N, F, P, env, S, h⟩ := h
  refine ⟨N, F, P, env, S, T.ok_mono (fun N1 r1 ⟨l1, q1⟩ => ?_) (hn _ _ _ (T.ok_bind h))⟩
  intro vs H1 F1 P1 E1 S1 R1 Y1 A1
  refine ⟨by rw [R1.length, l1], ?_⟩
  split at q1
  · rename_i hs env1 e1
    obtain ⟨F2, S2, R2, A2, m2, _⟩ := unslot_ok S1 R1 A1 e1
    split at q1
    · rename_i env2 e2
      exact q1 _ H1 F2 P1 ((E1.mon S).trans m2) (puts_ok S2 (unslot_noSlot e1) R2 A2 e2)
    · exact q1.elim
  · exact q1.elim
theorem sPar2_ok {i j : Nat} {ms : MH} {D : Ends} (hn : HLen 2 ms) (h : sM K Z (sPar [i, j] ms) D σ H) : tPar i j (tH K Z ms) D σ H := by
  obtain ⟨N, F, P, env, S, q⟩ := sPar_ok hn h
  refine ⟨N, F, P, env, S, T.ok_mono (fun N1 r1 q1 => ?_) q⟩
  intro vs H1 F1 P1 E1 S1 R1 Y1 A1
  obtain ⟨hl, q⟩ := q1 vs H1 F1 P1 E1 S1 R1 Y1 A1
  match vs, hl, q with
  | [v, w], _, q => exact ⟨v, w, rfl, q⟩
theorem sPar3_ok {i j l : Nat} {ms : MH} {D : Ends} (hn : HLen 3 ms) (h : sM K Z (sPar [i, j, l] ms) D σ H) : tPar3 i j l (tH K Z ms) D σ H := by
  obtain ⟨N, F, P, env, S, q⟩ := sPar_ok hn h
  refine ⟨N, F, P, env, S, T.ok_mono (fun N1 r1 q1 => ?_) q⟩
  intro vs H1 F1 P1 E1 S1 R1 Y1 A1
  obtain ⟨hl, q⟩ := q1 vs H1 F1 P1 E1 S1 R1 Y1 A1
  match vs, hl, q with
  | [u, v, w], _, q => exact ⟨u, v, w, rfl, q⟩
end
end Mi
set_option Elab.async false
set_option linter.all false
set_option maxRecDepth 100000
set_option maxHeartbeats 1000000
namespace Mi
open PySem PySem.Spec PyProof.Rows L2

section
variable {K : PySem.W.Frag} {Z : Fr} {N N' N'' : Nat} {F P F' P' F'' P'' : Addr → Prop} {env env' env'' e0 : Ev} {σ : L2.St} {H H' H'' H0 : Hp} {F0 P0 : Addr → Prop}

/-! ### what is walked -/
def YieldsD (K : PySem.W.Frag) (J : It) (ds : List D) (F P : Addr → Prop) (H : Hp) : Prop :=
  ∀ F' P' H', Mon K F P H F' P' H' → J.stop ds.length H' ∧ ∀ (i : Nat) d, ds[i]? = some d → J.go i H' ∧ ∀ x H'', J.yld i H' x H'' →
    (H'' = H' ∧ RV K F' P' H' d x) ∨ (∃ (Ta : Addr) (vs : List V) (es : List D), x = .ref Ta ∧ H' Ta = none ∧ H'' = upd H' Ta (.tup vs) ∧ d = .tup es ∧ RVs K F' P' H' es vs)
abbrev MI := Ev → T (List D × Ev)
def tI (K : PySem.W.Frag) (Z : Fr) (m : MI) : TI := fun σ H R => ∃ N F P env, StR K Z N F P env σ H ∧ (m env).ok N fun N' r =>
  ∀ J H' F' P', Ext σ env F P H r.2 F' P' H' → StR K Z N' F' P' r.2 σ H' → YieldsD K J r.1 F' P' H' → r.1.length ≤ sizeLine → R J H'
theorem PI.imp {X : Cx} {tg e : Expr} {t t' : TI} (p : PI X tg e t) (h : ∀ σ H Q, t' σ H Q → t σ H Q) : PI X tg e t' := ⟨fun pins s σ H Q I hw => p.run pins s σ H Q I (h σ H Q hw)⟩
/-- what a turn hands on is a value -/
theorem yield_rv {d : D} {x : V} (S : StR K Z N F P env σ H') (h : (H'' = H' ∧ RV K F P H' d x) ∨ (∃ (Ta : Addr) (vs : List V) (es : List D), x = .ref Ta ∧ H' Ta = none ∧ H'' = upd H' Ta (.tup vs) ∧ d = .tup es ∧ RVs K F P H' es vs)) :
    StR K Z N F P env σ H'' ∧ RV K F P H'' d x ∧ Ext σ env F P H' env F P H'' := by
  rcases h with ⟨rfl, r⟩ | ⟨Ta, vs, es, rfl, hn, rfl, rfl, r⟩
  · exact ⟨S, r, Ext.refl⟩
  · refine ⟨S.alloc hn, ?_, Ext.alloc hn⟩
    simp only [RV]
    exact ⟨Ta, vs, rfl, upd_same, r.alloc hn⟩

/-! ### for -/
def forL (g : GM) (body : MS) : List D → MS
  | [], env => .ret (.nx, env)
  | d :: ds, env => match g d env with
    | some env1 => (body env1).bind fun r => match r.1 with
      | .nx => forL g body ds r.2
      | .ct => forL g body ds r.2
      | .bk => .ret (.nx, r.2)
      | .rt v => .ret (.rt v, r.2)
    | none => .fail
def sFor (src : MI) (g : GM) (body : MS) : MS := fun env => (src env).bind fun r => forL g body r.1 r.2
theorem sFor_ok {src : MI} {t : TG} {g : GM} {sl : List Nat} {body : MS} {D : Ends} (hg : GOk K t g sl) (h : sM K Z (sFor src g body) D σ H) : tFor (tI K Z src) t (sM K Z body) D σ H := by
  obtain ⟨N, F, P, env, S, h⟩ := h
  refine ⟨N, F, P, env, S, T.ok_mono (fun N1 r1 q1 => ?_) (T.ok_bind h)⟩
  intro J H1 F1 P1 E1 S1 Y1 _
  have m01 := E1.mon S
  refine ⟨fun i m σ' H' => ∃ N2 F2 P2 env2 rest, m = rest.length ∧ r1.1.drop i = rest ∧ i + rest.length = r1.1.length ∧ Mon K F1 P1 H1 F2 P2 H' ∧ StR K Z N2 F2 P2 env2 σ' H' ∧ (forL g body rest env2).ok N2 (PostS K Z D F P H),
    ⟨r1.1.length, N1, F1, P1, r1.2, r1.1, rfl, rfl, by simp, Mon.refl, S1, q1⟩, ?_⟩
  rintro i m σ2 H2 ⟨N2, F2, P2, env2, rest, rfl, hd, hl, m12, S2, q2⟩
  obtain ⟨stop, go⟩ := Y1 F2 P2 H2 m12
  cases rest with
  | nil =>
    have hi : i = r1.1.length := by simpa using hl
    subst hi
    exact .inl ⟨stop, q2 σ2 H2 F2 P2 (m01.trans m12) S2⟩
  | cons d rest =>
    have hi : r1.1[i]? = some d := by
      have := congrArg (·[0]?) hd
      simpa [List.getElem?_drop] using this
    obtain ⟨g1, y1⟩ := go i d hi
    refine .inr ⟨g1, fun σ' H' => ∃ N3 F3 P3 env3, Mon K F1 P1 H1 F3 P3 H' ∧ StR K Z N3 F3 P3 env3 σ' H' ∧ (forL g body rest env3).ok N3 (PostS K Z D F P H), ?_, fun x H3 y => ?_⟩
    · rintro σ' H' ⟨N3, F3, P3, env3, m3, S3, q3⟩
      refine ⟨rest.length, by simp, N3, F3, P3, env3, rest, rfl, ?_, ?_, m3, S3, q3⟩
      · rw [← List.drop_drop, hd]; rfl
      · simp only [List.length_cons] at hl; omega
    · obtain ⟨S3, r3, E3⟩ := yield_rv S2 (y1 x H3 y)
      simp only [forL] at q2
      split at q2
      · rename_i env3 e3
        refine hg S3 r3 e3 fun σ' _ S4 => ⟨N2, F2, P2, env3, S4, T.ok_mono (fun N5 r5 q5 => ?_) (T.ok_bind q2)⟩
        intro σ5 H5 F5 P5 m5 S5
        have m15 := m12.trans ((E3.mon S2).trans m5)
        obtain ⟨f, env5⟩ := r5
        cases f with
        | nx => exact ⟨N5, F5, P5, env5, m15, S5, q5⟩
        | ct => exact ⟨N5, F5, P5, env5, m15, S5, q5⟩
        | bk => exact q5 σ5 H5 F5 P5 (m01.trans m15) S5
        | rt v => exact q5 σ5 H5 F5 P5 (m01.trans m15) S5
      · exact q2.elim

/-! ### while -/
def whileL (c : MT) (body : MS) : Nat → MS
  | 0, _ => .fail
  | n + 1, env => (c env).bind fun r => match r.1 with
    | true => (body r.2).bind fun r => match r.1 with
      | .nx => whileL c body n r.2
      | .ct => whileL c body n r.2
      | .bk => .ret (.nx, r.2)
      | .rt v => .ret (.rt v, r.2)
    | false => .ret (.nx, r.2)
def sWhile (n : Nat) (c : MT) (body : MS) : MS := whileL c body n
theorem sWhile_ok {n : Nat} {c : MT} {body : MS} {D : Ends} (h : sM K Z (sWhile n c body) D σ H) : tWhile (tT K Z c) (sM K Z body) D σ H := by
  obtain ⟨N, F, P, env, S, h⟩ := h
  refine ⟨fun m σ' H' => ∃ N2 F2 P2 env2, Mon K F P H F2 P2 H' ∧ StR K Z N2 F2 P2 env2 σ' H' ∧ (whileL c body m env2).ok N2 (PostS K Z D F P H), ⟨n, N, F, P, env, Mon.refl, S, h⟩, ?_⟩
  rintro m σ2 H2 ⟨N2, F2, P2, env2, m2, S2, q2⟩
  cases m with
  | zero => exact q2.elim
  | succ m =>
    refine ⟨N2, F2, P2, env2, S2, T.ok_mono (fun N3 r3 q3 => ?_) (T.ok_bind q2)⟩
    intro H3 F3 P3 E3 S3
    have m3 := m2.trans (E3.mon S2)
    obtain ⟨b, env3⟩ := r3
    cases b with
    | false => exact iteF (q3 σ2 H3 F3 P3 m3 S3)
    | true =>
      refine iteT ⟨fun σ' H' => ∃ N4 F4 P4 env4, Mon K F P H F4 P4 H' ∧ StR K Z N4 F4 P4 env4 σ' H' ∧ (whileL c body m env4).ok N4 (PostS K Z D F P H), fun σ' H' w => ⟨m, Nat.lt_succ_self m, w⟩, ?_⟩
      refine ⟨N3, F3, P3, env3, S3, T.ok_mono (fun N5 r5 q5 => ?_) (T.ok_bind q3)⟩
      intro σ5 H5 F5 P5 m5 S5
      obtain ⟨f, env5⟩ := r5
      cases f with
      | nx => exact ⟨N5, F5, P5, env5, m3.trans m5, S5, q5⟩
      | ct => exact ⟨N5, F5, P5, env5, m3.trans m5, S5, q5⟩
      | bk => exact q5 σ5 H5 F5 P5 (m3.trans m5) S5
      | rt v => exact q5 σ5 H5 F5 P5 (m3.trans m5) S5

/-! ### comprehensions -/
def wipeE (e : Ev) : List Nat → Ev
  | [] => e
  | v :: vs => (wipeE e vs).set v none
/-- the block's own slots as they were -/
def backE (q e : Ev) : List Nat → Ev
  | [] => q
  | v :: vs => (backE q e vs).set v (e[v]?.getD none)
def compL (g : GM) (tt : MT) (elt : M) (vs : List Nat) : List D → List D → Ev → T (List D × Ev)
  | [], acc, env => .ret (acc, env)
  | d :: ds, acc, env => match g d env with
    | some env1 => (tt env1).bind fun rb => match rb.1 with
      | true => (elt rb.2).bind fun re => match fz re.2 re.1 with
        | some (x, env2) => compL g tt elt vs ds (acc ++ [x]) (wipeE env2 vs)
        | none => .fail
      | false => compL g tt elt vs ds acc (wipeE rb.2 vs)
    | none => .fail
def free1 (e : Ev) (v : Nat) : Bool := match e[v]? with
  | some (some (true, _)) => false
  | _ => true
def eComp (vs : List Nat) (src : MI) (g : GM) (tt : MT) (elt : M) : M := fun env => (src env).bind fun r => if vs.all (free1 r.2) = true then
    (compL g tt elt vs r.1 [] (wipeE r.2 vs)).bind fun q => .ret (.tmp (.lst q.1), backE q.2 r.2 vs)
  else .fail
theorem wipeE_length (e : Ev) : ∀ vs : List Nat, (wipeE e vs).length = e.length
  | [] => rfl
  | v :: vs => by unfold wipeE; rw [List.length_set, wipeE_length e vs]
theorem backE_length (q e : Ev) : ∀ vs : List Nat, (backE q e vs).length = q.length
  | [] => rfl
  | v :: vs => by unfold backE; rw [List.length_set, backE_length q e vs]
theorem wipeE_get (e : Ev) {i : Nat} : ∀ {vs : List Nat}, (wipeE e vs)[i]? = if i ∈ vs ∧ i < e.length then some none else e[i]?
  | [] => by simp [wipeE]
  | v :: vs => by
    unfold wipeE
    by_cases h : v = i
    · subst h
      by_cases hl : v < e.length
      · rw [List.getElem?_set_self (by rw [wipeE_length]; exact hl), if_pos ⟨by simp, hl⟩]
      · rw [List.getElem?_eq_none (by rw [List.length_set, wipeE_length]; omega), if_neg (fun z => hl z.2), List.getElem?_eq_none (by omega)]
    · rw [List.getElem?_set_ne h, wipeE_get e]
      simp [show ¬ i = v from fun z => h z.symm]
theorem wipe_get (σ : L2.St) {i : Nat} : ∀ {vs : List Nat}, (wipe σ vs)[i]? = if i ∈ vs ∧ i < σ.length then some none else σ[i]?
  | [] => by simp [wipe]
  | v :: vs => by
    unfold wipe
    by_cases h : v = i
    · subst h
      by_cases hl : v < σ.length
      · rw [List.getElem?_set_self (by rw [wipe_length]; exact hl), if_pos ⟨by simp, hl⟩]
      · rw [List.getElem?_eq_none (by rw [List.length_set, wipe_length]; omega), if_neg (fun z => hl z.2), List.getElem?_eq_none (by omega)]
    · rw [List.getElem?_set_ne h, wipe_get σ]
      simp [show ¬ i = v from fun z => h z.symm]
theorem backE_get (q e : Ev) {i : Nat} : ∀ {vs : List Nat}, (backE q e vs)[i]? = if i ∈ vs ∧ i < q.length then some (e[i]?.getD none) else q[i]?
  | [] => by simp [backE]
  | v :: vs => by
    unfold backE
    by_cases h : v = i
    · subst h
      by_cases hl : v < q.length
      · rw [List.getElem?_set_self (by rw [backE_length]; exact hl), if_pos ⟨by simp, hl⟩]
      · rw [List.getElem?_eq_none (by rw [List.length_set, backE_length]; omega), if_neg (fun z => hl z.2), List.getElem?_eq_none (by omega)]
    · rw [List.getElem?_set_ne h, backE_get q e]
      simp [show ¬ i = v from fun z => h z.symm]
theorem StR.wipe {vs : List Nat} (S : StR K Z N F P env σ H) : StR K Z N F P (wipeE env vs) (L2.wipe σ vs) H := by
  have sub : ∀ (j : Nat) x, (wipeE env vs)[j]? = some (some x) → env[j]? = some (some x) ∧ j ∉ vs := fun j x q => by
    rw [wipeE_get] at q
    split at q
    · cases q
    · rename_i h
      refine ⟨q, fun z => h ⟨z, (List.getElem?_eq_some_iff.mp q).1⟩⟩
  have kp : ∀ (j : Nat), j ∉ vs → (L2.wipe σ vs)[j]? = σ[j]? := fun j h => by
    rw [wipe_get, if_neg (fun z => h z.1)]
  refine { len := by rw [wipeE_length, wipe_length]; exact S.len, fz := fun j x q => ?_, ow := fun j x q => ?_, inj := fun j k x y q q' z => ?_, same := S.same, frF := S.frF, frP := S.frP, subF := S.subF, subP := S.subP, trF := S.trF, pot := S.pot, dis := S.dis, nle := S.nle }
  · obtain ⟨q, hj⟩ := sub j _ q
    rw [kp j hj]; exact S.fz j x q
  · obtain ⟨q, hj⟩ := sub j _ q
    rw [kp j hj]; exact S.ow j x q
  · obtain ⟨q, hj⟩ := sub j _ q
    obtain ⟨q', hk⟩ := sub k _ q'
    rw [kp j hj, kp k hk] at z
    exact S.inj j k x y q q' z
theorem owned_wipe {vs : List Nat} (b : Addr) (o : Owned (wipeE env vs) (L2.wipe σ vs) b) : Owned env σ b := by
  obtain ⟨j, d, e1, e2⟩ := o
  rw [wipeE_get] at e1
  split at e1
  · cases e1
  · rename_i h
    rw [wipe_get] at e2
    split at e2
    · cases e2
    · exact ⟨j, d, e1, e2⟩
/-- an object that is nobody's but ours is written -/
theorem StR.upd {a : Addr} {vs ws : List V} (S : StR K Z N F P env σ H) (ha : H a = some (.lst vs)) (nf : ¬ F a) (np : ¬ P a) (no : ¬ Owned env σ a) (h0 : Z.H0 a = none) :
    StR K Z N F P env σ (L2.upd H a (.lst ws)) ∧ Mon K F P H F P (L2.upd H a (.lst ws)) := by
  have kp : ∀ b u, b ≠ a → H b = some u → L2.upd H a (.lst ws) b = some u := fun b u h e => by rw [upd_ne h]; exact e
  have m : Mon K F P H F P (L2.upd H a (.lst ws)) := ⟨fun _ h => h, fun _ h => h, fun b xs h => kp _ _ (fun z => by subst z; rw [ha] at h; cases h) h, fun b xs f h => kp _ _ (fun z => nf (z ▸ f)) h, fun b o u h => kp _ _ (fun z => by subst z; rw [ha] at h; cases h) h⟩
  refine ⟨{ len := S.len, fz := fun i d e => ?_, ow := fun i d e => ?_, inj := S.inj, same := fun b o h p => ?_, frF := S.frF, frP := S.frP, subF := S.subF, subP := S.subP, trF := fun b h => ?_, pot := fun b h => ?_, dis := S.dis, nle := S.nle }, m⟩
  · obtain ⟨v, e1, r⟩ := S.fz i d e
    exact ⟨v, e1, r.mono m⟩
  · obtain ⟨b, e1, o, nf', np', h0'⟩ := S.ow i d e
    have hb : b ≠ a := fun z => no (z ▸ ⟨i, d, e, e1⟩)
    exact ⟨b, e1, o.mono m fun vs z => kp _ _ hb z, nf', np', h0'⟩
  · refine kp _ _ (fun z => ?_) (S.same b o h p)
    subst z; rw [h0] at h; cases h
  · obtain ⟨o, e⟩ := S.trF b h
    exact ⟨o, kp _ _ (fun z => nf (z ▸ h)) e⟩
  · have q := S.pot b h
    have hb : b ≠ a := fun z => np (by rw [← z]; exact h)
    rw [upd_ne hb]; exact q
theorem Ext.upd {a : Addr} {o : HO} (E : Ext σ e0 F0 P0 H0 env F P H) (ha : H0 a = none ∨ Owned e0 σ a) : Ext σ e0 F0 P0 H0 env F P (L2.upd H a o) where
  fF := E.fF
  pP := E.pP
  own := E.own
  slot := E.slot
  keep := fun b u h p ow => by
    refine (upd_ne (fun z => ?_)).trans (E.keep b u h p ow)
    subst z
    rcases ha with q | q
    · rw [h] at q; cases q
    · exact ow q
  newF := E.newF
  newP := E.newP
  trk := fun b h => by
    unfold L2.upd
    split
    · simp
    · exact E.trk b h
theorem wipe_eq {sl vs : List Nat} {σ' : L2.St} (h : ∀ j, j ∉ sl → σ'[j]? = σ[j]?) (hl : σ'.length = σ.length) (hs : ∀ j ∈ sl, j ∈ vs) : L2.wipe σ' vs = L2.wipe σ vs := by
  apply List.ext_getElem?
  intro j
  rw [wipe_get, wipe_get, hl]
  by_cases hj : j ∈ vs ∧ j < σ.length
  · rw [if_pos hj, if_pos hj]
  · rw [if_neg hj, if_neg hj]
    by_cases h1 : j < σ.length
    · exact h j fun z => hj ⟨hs j z, h1⟩
    · rw [List.getElem?_eq_none (by omega), List.getElem?_eq_none (by omega)]
theorem wipe_wipe {vs : List Nat} : L2.wipe (L2.wipe σ vs) vs = L2.wipe σ vs := by
  apply List.ext_getElem?
  intro j
  rw [wipe_get, wipe_length, wipe_get]
  split <;> rfl
theorem StR.back {vs : List Nat} {er : Ev} (S1 : StR K Z N F P er σ H) (hv : vs.all (free1 er) = true) (S2 : StR K Z N' F' P' env (L2.wipe σ vs) H') (m : Mon K F P H F' P' H') : StR K Z N' F' P' (backE env er vs) σ H' := by
  have hl : env.length = er.length := by
    have h1 := S1.len
    have h2 := S2.len
    rw [wipe_length] at h2
    omega
  have inn : ∀ (j : Nat) fl x, (backE env er vs)[j]? = some (some (fl, x)) → j ∈ vs → er[j]? = some (some (fl, x)) ∧ fl = false := fun j fl x q hj => by
    rw [backE_get] at q
    split at q
    · have q' : er[j]?.getD none = some (fl, x) := Option.some.inj q
      have e1 : er[j]? = some (some (fl, x)) := by
        cases z : er[j]? with
        | none => rw [z] at q'; cases q'
        | some y => rw [z] at q'; exact congrArg some q'
      refine ⟨e1, ?_⟩
      have := List.all_eq_true.mp hv j hj
      unfold free1 at this
      rw [e1] at this
      cases fl with
      | false => rfl
      | true => simp at this
    · rename_i h
      have : j < env.length := (List.getElem?_eq_some_iff.mp q).1
      exact absurd ⟨hj, this⟩ h
  have out : ∀ (j : Nat) x, (backE env er vs)[j]? = some x → j ∉ vs → env[j]? = some x ∧ (L2.wipe σ vs)[j]? = σ[j]? := fun j x q hj => by
    rw [backE_get, if_neg (fun z => hj z.1)] at q
    exact ⟨q, by rw [wipe_get, if_neg (fun z => hj z.1)]⟩
  refine { len := by rw [backE_length, hl]; exact S1.len, fz := fun j x q => ?_, ow := fun j x q => ?_, inj := fun j k x y q q' z => ?_, same := S2.same, frF := S2.frF, frP := S2.frP, subF := S2.subF, subP := S2.subP, trF := S2.trF, pot := S2.pot, dis := S2.dis, nle := S2.nle }
  · by_cases hj : j ∈ vs
    · obtain ⟨v, e1, r⟩ := S1.fz j x (inn j _ x q hj).1
      exact ⟨v, e1, r.mono m⟩
    · obtain ⟨q1, q2⟩ := out j _ q hj
      rw [← q2]; exact S2.fz j x q1
  · by_cases hj : j ∈ vs
    · cases (inn j _ x q hj).2
    · obtain ⟨q1, q2⟩ := out j _ q hj
      rw [← q2]; exact S2.ow j x q1
  · by_cases hj : j ∈ vs
    · cases (inn j _ x q hj).2
    · by_cases hk : k ∈ vs
      · cases (inn k _ y q' hk).2
      · obtain ⟨q1, q2⟩ := out j _ q hj
        obtain ⟨q3, q4⟩ := out k _ q' hk
        exact S2.inj j k x y q1 q3 (by rw [q2, q4]; exact z)
theorem Ext.back {vs : List Nat} {er : Ev} (S1 : StR K Z N F P er σ H) (hv : vs.all (free1 er) = true) (hl : env.length = er.length) (E : Ext (L2.wipe σ vs) (wipeE er vs) F P H env F' P' H') : Ext σ er F P H (backE env er vs) F' P' H' where
  fF := E.fF
  pP := E.pP
  own := fun b ⟨j, x, q, e2⟩ => by
    rw [backE_get] at q
    by_cases hj : j ∈ vs ∧ j < env.length
    · rw [if_pos hj] at q
      have q' : er[j]?.getD none = some (true, x) := Option.some.inj q
      have e1 : er[j]? = some (some (true, x)) := by
        cases z : er[j]? with
        | none => rw [z] at q'; cases q'
        | some y => rw [z] at q'; exact congrArg some q'
      exact ⟨j, x, e1, e2⟩
    · rw [if_neg hj] at q
      have hj' : j ∉ vs := fun z => hj ⟨z, (List.getElem?_eq_some_iff.mp q).1⟩
      exact owned_wipe b (E.own b ⟨j, x, q, by rw [wipe_get, if_neg (fun z => hj' z.1)]; exact e2⟩)
  slot := fun j fl x e => by
    rw [backE_get]
    by_cases hj : j ∈ vs ∧ j < env.length
    · rw [if_pos hj, e]
      exact ⟨fl, x, rfl⟩
    · rw [if_neg hj]
      have hjl : j < er.length := (List.getElem?_eq_some_iff.mp e).1
      have hj' : j ∉ vs := fun z => hj ⟨z, by omega⟩
      exact E.slot j fl x (by rw [wipeE_get, if_neg (fun z => hj' z.1)]; exact e)
  keep := fun b o h p ow => E.keep b o h p fun z => ow (owned_wipe b z)
  newF := fun a h => by
    rcases E.newF a h with q | q | q
    · exact .inl q
    · exact .inr (.inl q)
    · exact .inr (.inr (owned_wipe a q))
  newP := E.newP
  trk := E.trk
theorem eComp_ok {vs sl : List Nat} {src : MI} {t : TG} {g : GM} {tt : MT} {elt : M} {Q : VK} (hg : GOk K t g sl) (hsl : ∀ j ∈ sl, j ∈ vs) (h : tM K Z (eComp vs src g tt elt) σ H Q) : tLc (tI K Z src) t (tT K Z tt) (tM K Z elt) vs σ H Q := by
  obtain ⟨N, F, P, env, S, h⟩ := h
  refine ⟨N, F, P, env, S, T.ok_mono (fun N1 r1 q1 => ?_) (T.ok_bind h)⟩
  intro J H1 F1 P1 E1 S1 Y1 hlen Da hDa
  split at q1
  · rename_i hv
    obtain ⟨nF, nP, nO, h0⟩ := S1.noneF hDa
    have q1' := T.ok_bind q1
    refine ⟨fun i m H' => ∃ N2 F2 P2 env2 rest acc avs, m = rest.length ∧ r1.1.drop i = rest ∧ i + rest.length = r1.1.length ∧ acc.length ≤ i ∧ H' Da = some (.lst avs) ∧ RVs K F2 P2 H' acc avs ∧ ¬ F2 Da ∧ ¬ P2 Da ∧ (∃ e, env2 = wipeE e vs) ∧
        StR K Z N2 F2 P2 env2 (L2.wipe σ vs) H' ∧ Ext (L2.wipe σ vs) (wipeE r1.2 vs) F1 P1 H1 env2 F2 P2 H' ∧ (compL g tt elt vs rest acc env2).ok N2 fun N' a => (T.ret (Hd.tmp (.lst a.1), backE a.2 r1.2 vs)).ok N' fun N' r => Post K Z σ env F P H Q N' r,
      ⟨r1.1.length, N1, F1, P1, wipeE r1.2 vs, r1.1, [], [], rfl, rfl, by simp, Nat.le_refl _, upd_same, .nil, nF, nP, ⟨_, rfl⟩, S1.wipe.alloc hDa, Ext.alloc hDa, q1'⟩, ?_⟩
    rintro i m H2 ⟨N2, F2, P2, env2, rest, acc, avs, rfl, hd, hl, hacc, hD, racc, nf2, np2, ⟨ew, hew⟩, S2, E2, q2⟩
    have m12 : Mon K F1 P1 H1 F2 P2 H2 := E2.mon S1.wipe
    have no2 : ¬ Owned env2 (L2.wipe σ vs) Da := fun z => nO (owned_wipe Da (E2.own Da z))
    obtain ⟨stop, go⟩ := Y1 F2 P2 H2 m12
    cases rest with
    | nil =>
      have hi : i = r1.1.length := by simpa using hl
      subst hi
      refine .inl ⟨stop, ?_⟩
      have q3 : Post K Z σ env F P H Q N2 (.tmp (.lst acc), backE env2 r1.2 vs) := q2
      have hlE : env2.length = r1.2.length := by
        have h1 := S1.len
        have h2 := S2.len
        rw [wipe_length] at h2
        omega
      refine q3 (.ref Da) H2 F2 P2 (E1.trans (Ext.back S1 hv hlE E2)) (S1.back hv S2 m12) ⟨Da, rfl, ⟨avs, hD, racc⟩, nf2, np2, fun z => ?_, h0⟩ ?_
      · exact nO ((Ext.back S1 hv hlE E2).own Da z)
      · exact Young.back (h := .tmp (.lst acc)) E1 ⟨Da, rfl, hDa⟩
    | cons d rest =>
      have hi : r1.1[i]? = some d := by
        have := congrArg (·[0]?) hd
        simpa [List.getElem?_drop] using this
      obtain ⟨g1, y1⟩ := go i d hi
      have hlt : acc.length < sizeLine := by
        simp only [List.length_cons] at hl
        omega
      refine .inr ⟨g1, fun H' => ∃ N3 F3 P3 env3 acc3 avs3, acc3.length ≤ i + 1 ∧ H' Da = some (.lst avs3) ∧ RVs K F3 P3 H' acc3 avs3 ∧ ¬ F3 Da ∧ ¬ P3 Da ∧ (∃ e, env3 = wipeE e vs) ∧
        StR K Z N3 F3 P3 env3 (L2.wipe σ vs) H' ∧ Ext (L2.wipe σ vs) (wipeE r1.2 vs) F1 P1 H1 env3 F3 P3 H' ∧ (compL g tt elt vs rest acc3 env3).ok N3 fun N' a => (T.ret (Hd.tmp (.lst a.1), backE a.2 r1.2 vs)).ok N' fun N' r => Post K Z σ env F P H Q N' r, ?_, fun x H3 y => ?_⟩
      · rintro H' ⟨N3, F3, P3, env3, acc3, avs3, ha3, hD3, ra3, nf3, np3, hw3, S3, E3, q3⟩
        refine ⟨rest.length, by simp, N3, F3, P3, env3, rest, acc3, avs3, rfl, ?_, ?_, ha3, hD3, ra3, nf3, np3, hw3, S3, E3, q3⟩
        · rw [← List.drop_drop, hd]; rfl
        · simp only [List.length_cons] at hl; omega
      · obtain ⟨S3, r3, E3⟩ := yield_rv S2 (y1 x H3 y)
        have hD3 : H3 Da = some (.lst avs) := E3.keep Da _ hD np2 no2
        have ra3 : RVs K F2 P2 H3 acc avs := racc.mono (E3.mon S2)
        simp only [compL] at q2
        split at q2
        · rename_i env3 e3
          refine hg S3 r3 e3 fun σ4 k4 S4 => ⟨?_, N2, F2, P2, env3, S4, T.ok_mono (fun N5 r5 q5 => ?_) (T.ok_bind q2)⟩
          · rw [wipe_eq k4.at_ k4.len hsl, wipe_wipe]
          have wσ : L2.wipe σ4 vs = L2.wipe σ vs := by rw [wipe_eq k4.at_ k4.len hsl, wipe_wipe]
          have no4 : ¬ Owned env3 σ4 Da := fun z => no2 (k4.own Da z)
          -- from a state over σ4 to the wiped one
          have fin : ∀ {env6 : Ev} {F6 P6 : Addr → Prop} {H6 : Hp}, Ext σ4 env3 F2 P2 H3 env6 F6 P6 H6 → Ext (L2.wipe σ vs) env2 F2 P2 H2 (wipeE env6 vs) F6 P6 H6 := fun {env6 F6 P6 H6} E6 => by
            have own6 : ∀ b, Owned (wipeE env6 vs) (L2.wipe σ vs) b → Owned env2 (L2.wipe σ vs) b := fun b o => k4.own b (E6.own b (owned_wipe b (by rw [wσ]; exact o)))
            refine ⟨E6.fF, E6.pP, own6, fun j fl z e => ?_, fun b o h p ow => ?_, fun a h => ?_, fun a h => ?_, fun b h => E6.trk b (E3.trk b h)⟩
            · have hjv : j ∉ vs := fun hj => by
                have hjl : j < ew.length := by
                  have := (List.getElem?_eq_some_iff.mp e).1
                  rw [hew, wipeE_length] at this; exact this
                rw [hew, wipeE_get, if_pos ⟨hj, hjl⟩] at e
                cases e
              obtain ⟨fl1, z1, e1⟩ := k4.slot j fl z e
              obtain ⟨fl2, z2, e2⟩ := E6.slot j fl1 z1 e1
              exact ⟨fl2, z2, by rw [wipeE_get, if_neg (fun z => hjv z.1)]; exact e2⟩
            · exact E6.keep b o (E3.keep b o h p ow) p fun z => ow (k4.own b z)
            · rcases E6.newF a h with q | q | q
              · exact .inl q
              · cases z : H2 a with
                | none => exact .inr (.inl rfl)
                | some o => exact absurd q (E3.trk a (by rw [z]; simp))
              · exact .inr (.inr (k4.own a q))
            · rcases E6.newP a h with q | q
              · exact .inl q
              · cases z : H2 a with
                | none => exact .inr rfl
                | some o => exact absurd q (E3.trk a (by rw [z]; simp))
          intro H5 F5 P5 E5 S5
          obtain ⟨b, env5⟩ := r5
          have nD5 : ¬ F5 Da ∧ ¬ P5 Da := ⟨fun z => by
            rcases E5.newF Da z with q | q | q
            · exact nf2 q
            · rw [hD3] at q; cases q
            · exact no4 q, fun z => by
            rcases E5.newP Da z with q | q
            · exact np2 q
            · rw [hD3] at q; cases q⟩
          have hD5 : H5 Da = some (.lst avs) := E5.keep Da _ hD3 np2 no4
          have ra5 : RVs K F5 P5 H5 acc avs := ra3.mono (E5.mon S4)
          cases b with
          | false =>
            refine iteF ⟨N5, F5, P5, wipeE env5 vs, acc, avs, by omega, hD5, ra5, nD5.1, nD5.2, ⟨_, rfl⟩, ?_, E2.trans (fin E5), q5⟩
            rw [← wσ]; exact S5.wipe
          | true =>
            have no5 : ¬ Owned env5 σ4 Da := fun z => no4 (E5.own Da z)
            refine iteT ⟨N5, F5, P5, env5, S5, T.ok_mono (fun N6 r6 q6 => ?_) (T.ok_bind q5)⟩
            intro v H6 F6 P6 E6 S6 R6 Y6
            split at q6
            · rename_i xd env7 e7
              obtain ⟨F7, E7, S7, rv⟩ := R6.freeze E6 S6 Y6 e7
              have nD7 : ¬ F7 Da ∧ ¬ P6 Da := ⟨fun z => by
                rcases E7.newF Da z with q | q | q
                · exact nD5.1 q
                · rw [hD5] at q; cases q
                · exact no5 q, fun z => by
                rcases E7.newP Da z with q | q
                · exact nD5.2 q
                · rw [hD5] at q; cases q⟩
              have hD7 : H6 Da = some (.lst avs) := E7.keep Da _ hD5 nD5.2 no5
              have ra7 : RVs K F7 P6 H6 acc avs := ra5.mono (E7.mon S5)
              have no7 : ¬ Owned env7 σ4 Da := fun z => no5 (E7.own Da z)
              have hal : avs.length = acc.length := ra7.length
              refine ⟨avs, hD7, by rw [hal]; exact hlt, ?_⟩
              obtain ⟨S8, m8⟩ := S7.upd (ws := avs ++ [v]) hD7 nD7.1 nD7.2 no7 h0
              refine ⟨N6, F7, P6, wipeE env7 vs, acc ++ [xd], avs ++ [v], by simp; omega, upd_same, (ra7.append (.one rv)).mono m8, nD7.1, nD7.2, ⟨_, rfl⟩, ?_, ?_, q6⟩
              · rw [← wσ]; exact S8.wipe
              · exact (E2.trans (fin (E5.trans E7))).upd (.inl hDa)
            · exact q6.elim
        · exact q2.elim
  · exact q1.elim
end
end Mi
set_option Elab.async false
set_option linter.all false
set_option maxRecDepth 100000
set_option maxHeartbeats 2000000
namespace Mi
open PySem PySem.Spec PyProof.Rows L2

/-! ### == of data -/
def eqL (f : D → D → Option Bool) : List D → List D → Option Bool
  | [], [] => some true
  | [], _ :: _ => some false
  | _ :: _, [] => some false
  | x :: xs, y :: ys => match f x y, eqL f xs ys with
    | some b, some r => some (b && r)
    | _, _ => none
def eqDn : Nat → D → D → Option Bool
  | 0, _, _ => none
  | _ + 1, .non, .non => some true
  | _ + 1, .bl a, .bl b => some (a == b)
  | _ + 1, .bl a, .int j => some ((if a then 1 else 0) == j)
  | _ + 1, .int i, .bl b => some (i == (if b then 1 else 0))
  | _ + 1, .int i, .int j => some (i == j)
  | _ + 1, .str x, .str y => some (x == y)
  | n + 1, .tup xs, .tup ys => eqL (eqDn n) xs ys
  | n + 1, .lst xs, .lst ys => if xs.length = ys.length then eqL (eqDn n) xs ys else some false
  | _ + 1, .non, .bl _ => some false
  | _ + 1, .non, .int _ => some false
  | _ + 1, .non, .str _ => some false
  | _ + 1, .non, .tup _ => some false
  | _ + 1, .non, .lst _ => some false
  | _ + 1, .bl _, .non => some false
  | _ + 1, .bl _, .str _ => some false
  | _ + 1, .bl _, .tup _ => some false
  | _ + 1, .bl _, .lst _ => some false
  | _ + 1, .int _, .non => some false
  | _ + 1, .int _, .str _ => some false
  | _ + 1, .int _, .tup _ => some false
  | _ + 1, .int _, .lst _ => some false
  | _ + 1, .str _, .non => some false
  | _ + 1, .str _, .bl _ => some false
  | _ + 1, .str _, .int _ => some false
  | _ + 1, .str _, .tup _ => some false
  | _ + 1, .str _, .lst _ => some false
  | _ + 1, .tup _, .non => some false
  | _ + 1, .tup _, .bl _ => some false
  | _ + 1, .tup _, .int _ => some false
  | _ + 1, .tup _, .str _ => some false
  | _ + 1, .tup _, .lst _ => some false
  | _ + 1, .lst _, .non => some false
  | _ + 1, .lst _, .bl _ => some false
  | _ + 1, .lst _, .int _ => some false
  | _ + 1, .lst _, .str _ => some false
  | _ + 1, .lst _, .tup _ => some false
  | _ + 1, _, _ => none

/-! ### data in the very heap -/
section
variable (h : Heap)
mutual
def Vd : D → Value → Prop
  | .non, u => u = .none
  | .bl b, u => u = .bool b
  | .int i, u => ∃ t, u = .int i t
  | .str x, u => ∃ t, u = .str ⟨x.toArray⟩ t
  | .tup ds, u => ∃ (a : Addr) (its : List Value), u = .ref a ∧ IsTup h a its.toArray ∧ Vds ds its
  | .lst ds, u => ∃ (a : Addr) (its : List Value), u = .ref a ∧ h.IsList a its.toArray ∧ Vds ds its
  | _, _ => True
def Vds : List D → List Value → Prop
  | [], us => us = []
  | d :: ds, us => ∃ u ur, us = u :: ur ∧ Vd d u ∧ Vds ds ur
end
end
section
variable {h : Heap}
theorem Vds.length : ∀ {ds : List D} {us : List Value}, Vds h ds us → us.length = ds.length
  | [], us, q => by simp only [Vds] at q; subst q; rfl
  | d :: ds, us, q => by
    simp only [Vds] at q
    obtain ⟨u, ur, e, _, r⟩ := q
    subst e
    simp [Vds.length r]
theorem Vds.get : ∀ {ds : List D} {us : List Value} {i : Nat} {d : D} {u : Value}, Vds h ds us → ds[i]? = some d → us[i]? = some u → Vd h d u
  | [], us, i, d, u, q, e, _ => by simp at e
  | d :: ds, us, 0, d', u', q, e, e' => by
    simp only [Vds] at q
    obtain ⟨u, ur, e1, q, r⟩ := q
    subst e1
    simp at e e'
    subst e; subst e'
    exact q
  | d :: ds, us, i + 1, d', u', q, e, e' => by
    simp only [Vds] at q
    obtain ⟨u, ur, e1, q, r⟩ := q
    subst e1
    exact Vds.get (i := i) r (by simpa using e) (by simpa using e')
end
section
variable {X : Cx} {pins : List (Addr × Obj)} {σ : L2.St} {H : Hp} {s : Shared} {F P : Addr → Prop}
mutual
theorem RV.vd (I : Inv X pins σ H s) : ∀ (d : D) (v : V) (u : Value), RV X.K F P H d v → RelV v u → Vd s.heap d u
  | .non, v, u, q, r => by simp only [RV] at q; subst q; simp only [Vd]; exact r
  | .bl b, v, u, q, r => by simp only [RV] at q; subst q; simp only [Vd]; exact r
  | .int i, v, u, q, r => by simp only [RV] at q; subst q; simp only [Vd]; exact r
  | .str x, v, u, q, r => by simp only [RV] at q; subst q; simp only [Vd]; exact r
  | .tup ds, v, u, q, r => by
    simp only [RV] at q
    obtain ⟨a, vs, e, sq, rs⟩ := q
    subst e
    obtain ⟨its, rv, p, _⟩ := I.tuple (.of sq)
    simp only [Vd]
    exact ⟨a, its, r, p, RVs.vd I ds vs its rs rv⟩
  | .lst ds, v, u, q, r => by
    simp only [RV] at q
    obtain ⟨a, vs, e, f, sq, rs⟩ := q
    subst e
    obtain ⟨its, rv, p, _⟩ := I.list (.of sq)
    simp only [Vd]
    exact ⟨a, its, r, p.isList, RVs.vd I ds vs its rs rv⟩
  | .dic _, v, u, q, r => by simp only [RV] at q
  | .pot, v, u, q, r => by simp only [Vd]
  | .scr _, v, u, q, r => by simp only [Vd]
  | .rep _, v, u, q, r => by simp only [RV] at q
theorem RVs.vd (I : Inv X pins σ H s) : ∀ (ds : List D) (vs : List V) (us : List Value), RVs X.K F P H ds vs → Vals vs us → Vds s.heap ds us
  | [], vs, us, q, r => by rw [q.unnil] at r; cases r; simp only [Vds]
  | d :: ds, vs, us, q, r => by
    obtain ⟨v, vr, rfl, q1, qr⟩ := q.uncons
    cases r with
    | cons r1 rr =>
      simp only [Vds]
      exact ⟨_, _, rfl, RV.vd I d v _ q1 r1, RVs.vd I ds vr _ qr rr⟩
end
theorem RC.vd (I : Inv X pins σ H s) {d : D} {v : V} {u : Value} (q : RC X.K F P H d v) (r : RelV v u) : Vd s.heap d u := by
  rcases q with q | ⟨a, e, o⟩
  · exact RV.vd I d v u q r
  · subst e
    cases d with
    | lst ds =>
      obtain ⟨vs, ha, rs⟩ := o
      obtain ⟨its, rv, p, _⟩ := I.list (.of ha)
      simp only [Vd]
      exact ⟨a, its, r, p.isList, RVs.vd I ds vs its rs rv⟩
    | _ => exact o.elim
end
mutual
/-- none, bools, ints, texts, tuples and lists of such -/
def plD : D → Bool
  | .tup ds => plDs ds
  | .lst ds => plDs ds
  | .non => true
  | .bl _ => true
  | .int _ => true
  | .str _ => true
  | _ => false
def plDs : List D → Bool
  | [] => true
  | d :: ds => plD d && plDs ds
end
theorem eqL_pl {n : Nat} (ih : ∀ d e b, eqDn n d e = some b → plD d = true ∧ plD e = true) : ∀ {xs ys : List D} {b : Bool}, xs.length = ys.length → eqL (eqDn n) xs ys = some b → plDs xs = true ∧ plDs ys = true
  | [], [], _, _, _ => ⟨rfl, rfl⟩
  | [], _ :: _, _, h, _ => by simp at h
  | _ :: _, [], _, h, _ => by simp at h
  | x :: xs, y :: ys, b, h, e => by
    simp only [eqL] at e
    split at e
    · rename_i b1 r1 e1 e2
      have h1 := ih x y _ e1
      have h2 := eqL_pl ih (by simpa using h) e2
      simp [plDs, h1, h2]
    · cases e
theorem not_both {h : Heap} {a : Addr} {xs ys : Array Value} (l : h.IsList a xs) (t : IsTup h a ys) : False := by
  obtain ⟨o, ho, hc, _⟩ := l
  obtain ⟨o', ho', hc', _⟩ := t
  rw [ho] at ho'; cases ho'
  rw [hc] at hc'
  exact absurd (Value.type.inj hc') (by decide)
mutual
theorem Vd.inj {h : Heap} : ∀ (d d' : D) (u : Value), plD d = true → plD d' = true → Vd h d u → Vd h d' u → d = d'
  | .non, d', u, _, p, q, q' => by
    simp only [Vd] at q; subst q
    cases d' <;> simp only [Vd] at q' <;> first | rfl | (obtain ⟨_, _, e, _⟩ := q'; cases e; done) | (obtain ⟨_, e⟩ := q'; cases e; done) | (cases q'; done) | (simp [plD] at p)
  | .bl b, d', u, _, p, q, q' => by
    simp only [Vd] at q; subst q
    cases d' <;> simp only [Vd] at q' <;> first | (obtain ⟨_, _, e, _⟩ := q'; cases e; done) | (obtain ⟨_, e⟩ := q'; cases e; done) | (cases q'; done) | (cases q'; rfl) | (simp [plD] at p)
  | .int i, d', u, _, p, q, q' => by
    simp only [Vd] at q; obtain ⟨t, q⟩ := q; subst q
    cases d' <;> simp only [Vd] at q' <;> first | (obtain ⟨_, _, e, _⟩ := q'; cases e; done) | (obtain ⟨_, e⟩ := q'; cases e; rfl) | (obtain ⟨_, e⟩ := q'; cases e; done) | (cases q'; done) | (simp [plD] at p)
  | .str x, d', u, _, p, q, q' => by
    simp only [Vd] at q; obtain ⟨t, q⟩ := q; subst q
    cases d' with
    | str y =>
      simp only [Vd] at q'
      obtain ⟨t', e⟩ := q'
      injection e with e1 _
      injection e1 with e1
      have : x = y := by simpa using congrArg Array.toList e1
      rw [this]
    | _ => simp only [Vd] at q' <;> first | (obtain ⟨_, _, e, _⟩ := q'; cases e; done) | (obtain ⟨_, e⟩ := q'; cases e; done) | (cases q'; done) | (simp [plD] at p)
  | .tup ds, d', u, p0, p, q, q' => by
    simp only [Vd] at q; obtain ⟨a, its, e, t, qs⟩ := q; subst e
    cases d' with
    | tup es =>
      simp only [Vd] at q'
      obtain ⟨a', its', e, t', qs'⟩ := q'
      cases e
      obtain ⟨o, ho, hc, n, hd⟩ := t
      obtain ⟨o', ho', hc', n', hd'⟩ := t'
      rw [ho] at ho'; cases ho'
      rw [hd] at hd'
      injection hd' with hd' _
      have : its = its' := by simpa using congrArg Array.toList hd'
      subst this
      rw [Vds.inj ds es its (by simpa [plD] using p0) (by simpa [plD] using p) qs qs']
    | lst es =>
      simp only [Vd] at q'
      obtain ⟨a', its', e, t', qs'⟩ := q'
      cases e
      exact (not_both t' t).elim
    | _ => simp only [Vd] at q' <;> first | (obtain ⟨_, e⟩ := q'; cases e; done) | (cases q'; done) | (simp [plD] at p)
  | .lst ds, d', u, p0, p, q, q' => by
    simp only [Vd] at q; obtain ⟨a, its, e, t, qs⟩ := q; subst e
    cases d' with
    | lst es =>
      simp only [Vd] at q'
      obtain ⟨a', its', e, t', qs'⟩ := q'
      cases e
      obtain ⟨o, ho, hc, n, hd⟩ := t
      obtain ⟨o', ho', hc', n', hd'⟩ := t'
      rw [ho] at ho'; cases ho'
      rw [hd] at hd'
      injection hd' with hd' _
      have : its = its' := by simpa using congrArg Array.toList hd'
      subst this
      rw [Vds.inj ds es its (by simpa [plD] using p0) (by simpa [plD] using p) qs qs']
    | tup es =>
      simp only [Vd] at q'
      obtain ⟨a', its', e, t', qs'⟩ := q'
      cases e
      exact (not_both t t').elim
    | _ => simp only [Vd] at q' <;> first | (obtain ⟨_, e⟩ := q'; cases e; done) | (cases q'; done) | (simp [plD] at p)
  | .dic _, _, _, p, _, _, _ => by simp [plD] at p
  | .pot, _, _, p, _, _, _ => by simp [plD] at p
  | .scr _, _, _, p, _, _, _ => by simp [plD] at p
  | .rep _, _, _, p, _, _, _ => by simp [plD] at p
theorem Vds.inj {h : Heap} : ∀ (ds ds' : List D) (us : List Value), plDs ds = true → plDs ds' = true → Vds h ds us → Vds h ds' us → ds = ds'
  | [], [], _, _, _, _, _ => rfl
  | [], d :: ds, us, _, _, q, q' => by
    simp only [Vds] at q q'
    obtain ⟨_, _, e, _⟩ := q'
    rw [q] at e; cases e
  | d :: ds, [], us, _, _, q, q' => by
    simp only [Vds] at q q'
    obtain ⟨_, _, e, _⟩ := q
    rw [q'] at e; cases e
  | d :: ds, d' :: ds', us, p, p', q, q' => by
    simp only [Vds] at q q'
    obtain ⟨u, ur, e, q1, qr⟩ := q
    obtain ⟨u', ur', e', q1', qr'⟩ := q'
    rw [e] at e'; cases e'
    simp only [plDs, Bool.and_eq_true] at p p'
    rw [Vd.inj d d' u p.1 p'.1 q1 q1', Vds.inj ds ds' ur p.2 p'.2 qr qr']
end

theorem eqL_len {f : D → D → Option Bool} : ∀ {xs ys : List D} {b : Bool}, eqL f xs ys = some b → xs.length ≠ ys.length → b = false
  | [], [], b, _, h => by simp at h
  | [], _ :: _, b, e, h => by cases e; rfl
  | _ :: _, [], b, e, h => by cases e; rfl
  | x :: xs, y :: ys, b, e, h => by
    simp only [eqL] at e
    split at e
    · rename_i b1 r1 e1 e2
      cases e
      rw [eqL_len e2 (fun z => h (by simp [z]))]
      simp
    · cases e
/-- the items' answers -/
def eqJ (f : D → D → Option Bool) (xs ys : List D) (j : Nat) : Bool := match xs[j]?, ys[j]? with
  | some x, some y => (f x y).getD false
  | _, _ => false
theorem eqL_all {f : D → D → Option Bool} : ∀ {xs ys : List D} {b : Bool}, eqL f xs ys = some b →
    b = ((List.range (min xs.length ys.length)).all (eqJ f xs ys) && xs.length == ys.length) ∧ ∀ (j : Nat) x y, xs[j]? = some x → ys[j]? = some y → f x y = some (eqJ f xs ys j)
  | [], [], b, e => by cases e; exact ⟨by simp, fun j x y h => by simp at h⟩
  | [], _ :: _, b, e => by cases e; exact ⟨by simp, fun j x y h => by simp at h⟩
  | _ :: _, [], b, e => by cases e; exact ⟨by simp, fun j x y _ h => by simp at h⟩
  | x :: xs, y :: ys, b, e => by
    simp only [eqL] at e
    split at e
    · rename_i b1 r1 e1 e2
      cases e
      obtain ⟨h1, h2⟩ := eqL_all e2
      have hj : ∀ j, eqJ f (x :: xs) (y :: ys) (j + 1) = eqJ f xs ys j := fun j => by simp [eqJ]
      refine ⟨?_, fun j a c ha hc => ?_⟩
      · have hm : min (x :: xs).length (y :: ys).length = min xs.length ys.length + 1 := by simp only [List.length_cons]; omega
        have h0 : eqJ f (x :: xs) (y :: ys) 0 = b1 := by simp [eqJ, e1]
        rw [hm, List.range_succ_eq_map, List.all_cons, List.all_map, h0]
        have hf : (eqJ f (x :: xs) (y :: ys) ∘ Nat.succ) = eqJ f xs ys := by funext j; exact hj j
        rw [hf, h1]
        have hl : ((x :: xs).length == (y :: ys).length) = (xs.length == ys.length) := by
          simp only [List.length_cons]
          by_cases q : xs.length = ys.length
          · simp [q]
          · have q' : ¬ xs.length + 1 = ys.length + 1 := by omega
            rw [beq_eq_false_iff_ne.mpr q, beq_eq_false_iff_ne.mpr q']
        rw [hl, Bool.and_assoc]
      · cases j with
        | zero =>
          simp at ha hc
          subst ha; subst hc
          simp [eqJ, e1]
        | succ j =>
          rw [hj]
          exact h2 j a c (by simpa using ha) (by simpa using hc)
    · cases e
theorem eq_same {h : Heap} : ∀ (n : Nat) (d e : D) (b : Bool) (u : Value), Vd h d u → Vd h e u → eqDn n d e = some b → b = true := by
  intro n
  induction n with
  | zero => intro d e b u _ _ q; cases d <;> cases e <;> cases q
  | succ n ih =>
    intro d e b u vd ve q
    cases d <;> cases e <;> simp only [eqDn] at q <;> first
      | (cases q; done)
      | (cases q; rfl)
      | skip
    all_goals simp only [Vd] at vd ve
    all_goals first
      | (subst vd; cases ve; done)
      | (subst vd; obtain ⟨_, _, z, _⟩ := ve; cases z; done)
      | (subst vd; obtain ⟨_, z⟩ := ve; cases z; done)
      | (obtain ⟨_, vd⟩ := vd; subst vd; cases ve; done)
      | (obtain ⟨_, vd⟩ := vd; subst vd; obtain ⟨_, _, z, _⟩ := ve; cases z; done)
      | (obtain ⟨_, vd⟩ := vd; subst vd; obtain ⟨_, z⟩ := ve; cases z; done)
      | (obtain ⟨_, _, vd, _⟩ := vd; subst vd; cases ve; done)
      | (obtain ⟨_, _, vd, _⟩ := vd; subst vd; obtain ⟨_, z⟩ := ve; cases z; done)
      | skip
    case bl.bl => subst vd; cases ve; cases q; simp
    case int.int =>
      obtain ⟨t, vd⟩ := vd
      obtain ⟨t', ve⟩ := ve
      rw [vd] at ve; cases ve; cases q; simp
    case str.str x y =>
      obtain ⟨t, vd⟩ := vd
      obtain ⟨t', ve⟩ := ve
      rw [vd] at ve
      injection ve with e1 _
      injection e1 with e1
      have : x = y := by simpa using congrArg Array.toList e1
      subst this
      cases q; simp
    case tup.tup ds es =>
      obtain ⟨a, its, z, t, qs⟩ := vd
      obtain ⟨a', its', z', t', qs'⟩ := ve
      rw [z] at z'; cases z'
      obtain ⟨o, ho, hc, k, hd⟩ := t
      obtain ⟨o', ho', hc', k', hd'⟩ := t'
      rw [ho] at ho'; cases ho'
      rw [hd] at hd'
      injection hd' with hd' _
      have e0 : its = its' := by simpa using congrArg Array.toList hd'
      subst e0
      obtain ⟨h1, h2⟩ := eqL_all q
      have hl : ds.length = es.length := by rw [← qs.length, ← qs'.length]
      rw [h1, hl]
      simp only [beq_self_eq_true, Bool.and_true, Nat.min_self, List.all_eq_true, List.mem_range]
      intro j hj
      have e1 : ds[j]? = some ds[j] := List.getElem?_eq_getElem (by omega)
      have e2 : es[j]? = some es[j] := List.getElem?_eq_getElem hj
      have e3 : its[j]? = some (its[j]'(by rw [qs'.length]; exact hj)) := List.getElem?_eq_getElem _
      exact ih _ _ _ _ (qs.get e1 e3) (qs'.get e2 e3) (h2 j _ _ e1 e2)
    case tup.lst ds es =>
      obtain ⟨a, its, z, t, qs⟩ := vd
      obtain ⟨a', its', z', t', qs'⟩ := ve
      rw [z] at z'; cases z'
      exact (not_both t' t).elim
    case lst.tup ds es =>
      obtain ⟨a, its, z, t, qs⟩ := vd
      obtain ⟨a', its', z', t', qs'⟩ := ve
      rw [z] at z'; cases z'
      exact (not_both t t').elim
    case lst.lst ds es =>
      obtain ⟨a, its, z, t, qs⟩ := vd
      obtain ⟨a', its', z', t', qs'⟩ := ve
      rw [z] at z'; cases z'
      obtain ⟨o, ho, hc, k, hd⟩ := t
      obtain ⟨o', ho', hc', k', hd'⟩ := t'
      rw [ho] at ho'; cases ho'
      rw [hd] at hd'
      injection hd' with hd' _
      have e0 : its = its' := by simpa using congrArg Array.toList hd'
      subst e0
      have hl : ds.length = es.length := by rw [← qs.length, ← qs'.length]
      rw [if_pos hl] at q
      obtain ⟨h1, h2⟩ := eqL_all q
      rw [h1, hl]
      simp only [beq_self_eq_true, Bool.and_true, Nat.min_self, List.all_eq_true, List.mem_range]
      intro j hj
      have e1 : ds[j]? = some ds[j] := List.getElem?_eq_getElem (by omega)
      have e2 : es[j]? = some es[j] := List.getElem?_eq_getElem hj
      have e3 : its[j]? = some (its[j]'(by rw [qs'.length]; exact hj)) := List.getElem?_eq_getElem _
      exact ih _ _ _ _ (qs.get e1 e3) (qs'.get e2 e3) (h2 j _ _ e1 e2)

theorem eqAt_of {s : Shared} : ∀ (n : Nat) (d e : D) (b : Bool) (u v : Value), Vd s.heap d u → Vd s.heap e v → eqDn n d e = some b → ∀ A : Around, A.units + n < cLine → SeqAt.RcAt A s u v b ∧ SeqAt.EqAt A s u v b := by
  intro n
  induction n with
  | zero => intro d e b u v _ _ q; cases d <;> cases e <;> cases q
  | succ n ih =>
    intro d e b u v vd ve q A hu
    have hu0 : A.units < cLine := by omega
    cases d <;> cases e <;> simp only [eqDn] at q
    all_goals first
      | (cases q; done)
      | skip
    all_goals simp only [Vd] at vd ve
    case non.non => subst vd; subst ve; cases q; exact ⟨SeqAt.RcAt.none_none, SeqAt.EqAt.same _⟩
    case non.bl => subst vd; subst ve; cases q; exact ⟨SeqAt.RcAt.none_bool _, SeqAt.EqAt.none_bool _⟩
    case non.int => subst vd; obtain ⟨t, rfl⟩ := ve; cases q; exact ⟨SeqAt.RcAt.none_int _ _, SeqAt.EqAt.none_int _ _⟩
    case non.str => subst vd; obtain ⟨t, rfl⟩ := ve; cases q; exact ⟨SeqAt.RcAt.none_str _ _, SeqAt.EqAt.none_str _ _⟩
    case non.tup => subst vd; obtain ⟨a, its, rfl, t, _⟩ := ve; cases q; exact ⟨SeqAt.RcAt.none_tuple t hu0, SeqAt.EqAt.none_tuple t hu0⟩
    case non.lst => subst vd; obtain ⟨a, its, rfl, t, _⟩ := ve; cases q; exact ⟨SeqAt.RcAt.none_list t hu0, SeqAt.EqAt.none_list t hu0⟩
    case bl.non => subst vd; subst ve; cases q; exact ⟨SeqAt.RcAt.bool_none _, SeqAt.EqAt.bool_none _⟩
    case bl.bl => subst vd; subst ve; cases q; exact ⟨SeqAt.RcAt.bool_bool _ _, SeqAt.EqAt.bool_bool _ _⟩
    case bl.int => subst vd; obtain ⟨t, rfl⟩ := ve; cases q; exact ⟨SeqAt.RcAt.bool_int _ _ _, SeqAt.EqAt.bool_int _ _ _⟩
    case bl.str => subst vd; obtain ⟨t, rfl⟩ := ve; cases q; exact ⟨SeqAt.RcAt.bool_str _ _ _, SeqAt.EqAt.bool_str _ _ _⟩
    case bl.tup => subst vd; obtain ⟨a, its, rfl, t, _⟩ := ve; cases q; exact ⟨SeqAt.RcAt.bool_tuple _ t hu0, SeqAt.EqAt.bool_tuple _ t hu0⟩
    case bl.lst => subst vd; obtain ⟨a, its, rfl, t, _⟩ := ve; cases q; exact ⟨SeqAt.RcAt.bool_list _ t hu0, SeqAt.EqAt.bool_list _ t hu0⟩
    case int.non => obtain ⟨t, rfl⟩ := vd; subst ve; cases q; exact ⟨SeqAt.RcAt.int_none _ _, SeqAt.EqAt.int_none _ _⟩
    case int.bl => obtain ⟨t, rfl⟩ := vd; subst ve; cases q; exact ⟨SeqAt.RcAt.int_bool _ _ _, SeqAt.EqAt.int_bool _ _ _⟩
    case int.int => obtain ⟨t, rfl⟩ := vd; obtain ⟨t', rfl⟩ := ve; cases q; exact ⟨SeqAt.RcAt.int_int _ _ _ _, SeqAt.EqAt.int_int _ _ _ _⟩
    case int.str => obtain ⟨t, rfl⟩ := vd; obtain ⟨t', rfl⟩ := ve; cases q; exact ⟨SeqAt.RcAt.int_str _ _ _ _, SeqAt.EqAt.int_str _ _ _ _⟩
    case int.tup => obtain ⟨t, rfl⟩ := vd; obtain ⟨a, its, rfl, t, _⟩ := ve; cases q; exact ⟨SeqAt.RcAt.int_tuple _ _ t hu0, SeqAt.EqAt.int_tuple _ _ t hu0⟩
    case int.lst => obtain ⟨t, rfl⟩ := vd; obtain ⟨a, its, rfl, t, _⟩ := ve; cases q; exact ⟨SeqAt.RcAt.int_list _ _ t hu0, SeqAt.EqAt.int_list _ _ t hu0⟩
    case str.non => obtain ⟨t, rfl⟩ := vd; subst ve; cases q; exact ⟨SeqAt.RcAt.str_none _ _, SeqAt.EqAt.str_none _ _⟩
    case str.bl => obtain ⟨t, rfl⟩ := vd; subst ve; cases q; exact ⟨SeqAt.RcAt.str_bool _ _ _, SeqAt.EqAt.str_bool _ _ _⟩
    case str.int => obtain ⟨t, rfl⟩ := vd; obtain ⟨t', rfl⟩ := ve; cases q; exact ⟨SeqAt.RcAt.str_int _ _ _ _, SeqAt.EqAt.str_int _ _ _ _⟩
    case str.str x y =>
      obtain ⟨t, rfl⟩ := vd; obtain ⟨t', rfl⟩ := ve; cases q
      have e1 : (x == y) = ((⟨x.toArray⟩ : Str) == ⟨y.toArray⟩) := by
        by_cases h : x = y
        · subst h; simp
        · have h' : (⟨x.toArray⟩ : Str) ≠ ⟨y.toArray⟩ := fun z => h (by injection z with z; simpa using congrArg Array.toList z)
          rw [beq_eq_false_iff_ne.mpr h, beq_eq_false_iff_ne.mpr h']
      rw [e1]
      exact ⟨SeqAt.RcAt.str_str _ _ _ _, SeqAt.EqAt.str_str _ _ _ _⟩
    case str.tup => obtain ⟨t, rfl⟩ := vd; obtain ⟨a, its, rfl, t, _⟩ := ve; cases q; exact ⟨SeqAt.RcAt.str_tuple _ _ t hu0, SeqAt.EqAt.str_tuple _ _ t hu0⟩
    case str.lst => obtain ⟨t, rfl⟩ := vd; obtain ⟨a, its, rfl, t, _⟩ := ve; cases q; exact ⟨SeqAt.RcAt.str_list _ _ t hu0, SeqAt.EqAt.str_list _ _ t hu0⟩
    case tup.non => obtain ⟨a, its, rfl, t, _⟩ := vd; subst ve; cases q; exact ⟨SeqAt.RcAt.tuple_none t hu0, SeqAt.EqAt.tuple_none t hu0⟩
    case tup.bl => obtain ⟨a, its, rfl, t, _⟩ := vd; subst ve; cases q; exact ⟨SeqAt.RcAt.tuple_bool _ t hu0, SeqAt.EqAt.tuple_bool _ t hu0⟩
    case tup.int => obtain ⟨a, its, rfl, t, _⟩ := vd; obtain ⟨t', rfl⟩ := ve; cases q; exact ⟨SeqAt.RcAt.tuple_int _ _ t hu0, SeqAt.EqAt.tuple_int _ _ t hu0⟩
    case tup.str => obtain ⟨a, its, rfl, t, _⟩ := vd; obtain ⟨t', rfl⟩ := ve; cases q; exact ⟨SeqAt.RcAt.tuple_str _ _ t hu0, SeqAt.EqAt.tuple_str _ _ t hu0⟩
    case tup.tup ds es =>
      obtain ⟨a, its, rfl, t, qs⟩ := vd
      obtain ⟨a', its', rfl, t', qs'⟩ := ve
      obtain ⟨h1, h2⟩ := eqL_all q
      have rc : SeqAt.RcAt A s (.ref a) (.ref a') b := by
        have := SeqAt.RcAt.tuples (e := eqJ (eqDn n) ds es) (show s.heap.IsTuple a its.toArray from t) (show s.heap.IsTuple a' its'.toArray from t') hu0 fun j g1 g2 => by
          have g1' : j < its.length := by simpa using g1
          have g2' : j < its'.length := by simpa using g2
          have l1 : ds[j]? = some (ds[j]'(by rw [← qs.length]; exact g1')) := List.getElem?_eq_getElem _
          have l2 : es[j]? = some (es[j]'(by rw [← qs'.length]; exact g2')) := List.getElem?_eq_getElem _
          have r1 : its[j]? = some (its[j]'g1') := List.getElem?_eq_getElem _
          have r2 : its'[j]? = some (its'[j]'g2') := List.getElem?_eq_getElem _
          have := (ih _ _ _ _ _ (qs.get l1 r1) (qs'.get l2 r2) (h2 j _ _ l1 l2) A.in1 (by show A.units + 1 + n < cLine; omega)).2
          simpa using this
        simp only [List.size_toArray] at this
        rw [qs.length, qs'.length, ← h1] at this
        exact this
      refine ⟨rc, ?_⟩
      by_cases hl : a = a'
      · subst hl
        have hb : b = true := eq_same (n + 1) (.tup ds) (.tup es) b (.ref a) (by simp only [Vd]; exact ⟨a, its, rfl, t, qs⟩) (by simp only [Vd]; exact ⟨a, its', rfl, t', qs'⟩) (by simp only [eqDn]; exact q)
        subst hb
        exact SeqAt.EqAt.same _
      · exact SeqAt.EqAt.of_refs hl rc
    case tup.lst => obtain ⟨a, its, rfl, t, _⟩ := vd; obtain ⟨a', its', rfl, t', _⟩ := ve; cases q; exact ⟨SeqAt.RcAt.tuple_list t t' hu0, SeqAt.EqAt.tuple_list t t' hu0⟩
    case lst.non => obtain ⟨a, its, rfl, t, _⟩ := vd; subst ve; cases q; exact ⟨SeqAt.RcAt.list_none t hu0, SeqAt.EqAt.list_none t hu0⟩
    case lst.bl => obtain ⟨a, its, rfl, t, _⟩ := vd; subst ve; cases q; exact ⟨SeqAt.RcAt.list_bool _ t hu0, SeqAt.EqAt.list_bool _ t hu0⟩
    case lst.int => obtain ⟨a, its, rfl, t, _⟩ := vd; obtain ⟨t', rfl⟩ := ve; cases q; exact ⟨SeqAt.RcAt.list_int _ _ t hu0, SeqAt.EqAt.list_int _ _ t hu0⟩
    case lst.str => obtain ⟨a, its, rfl, t, _⟩ := vd; obtain ⟨t', rfl⟩ := ve; cases q; exact ⟨SeqAt.RcAt.list_str _ _ t hu0, SeqAt.EqAt.list_str _ _ t hu0⟩
    case lst.tup => obtain ⟨a, its, rfl, t, _⟩ := vd; obtain ⟨a', its', rfl, t', _⟩ := ve; cases q; exact ⟨SeqAt.RcAt.list_tuple t t' hu0, SeqAt.EqAt.list_tuple t t' hu0⟩
    case lst.lst ds es =>
      obtain ⟨a, its, rfl, t, qs⟩ := vd
      obtain ⟨a', its', rfl, t', qs'⟩ := ve
      by_cases hlen : ds.length = es.length
      · rw [if_pos hlen] at q
        obtain ⟨h1, h2⟩ := eqL_all q
        have rc : SeqAt.RcAt A s (.ref a) (.ref a') b := by
          have := SeqAt.RcAt.lists (e := eqJ (eqDn n) ds es) t t' (by simp [qs.length, qs'.length, hlen]) hu0 fun j g1 g2 => by
            have g1' : j < its.length := by simpa using g1
            have g2' : j < its'.length := by simpa using g2
            have l1 : ds[j]? = some (ds[j]'(by rw [← qs.length]; exact g1')) := List.getElem?_eq_getElem _
            have l2 : es[j]? = some (es[j]'(by rw [← qs'.length]; exact g2')) := List.getElem?_eq_getElem _
            have r1 : its[j]? = some (its[j]'g1') := List.getElem?_eq_getElem _
            have r2 : its'[j]? = some (its'[j]'g2') := List.getElem?_eq_getElem _
            have := (ih _ _ _ _ _ (qs.get l1 r1) (qs'.get l2 r2) (h2 j _ _ l1 l2) A.in1 (by show A.units + 1 + n < cLine; omega)).2
            simpa using this
          have hb : b = (List.range its.toArray.size).all (eqJ (eqDn n) ds es) := by
            rw [h1, ← hlen]; simp [qs.length]
          rw [hb]; exact this
        refine ⟨rc, ?_⟩
        by_cases hl : a = a'
        · subst hl
          have hb : b = true := eq_same (n + 1) (.lst ds) (.lst es) b (.ref a) (by simp only [Vd]; exact ⟨a, its, rfl, t, qs⟩) (by simp only [Vd]; exact ⟨a, its', rfl, t', qs'⟩) (by simp only [eqDn]; rw [if_pos hlen]; exact q)
          subst hb
          exact SeqAt.EqAt.same _
        · exact SeqAt.EqAt.of_refs hl rc
      · rw [if_neg hlen] at q
        cases q
        have hs : (its.toArray.size != its'.toArray.size) = true := by
          simp [qs.length, qs'.length, hlen]
        have rc := SeqAt.RcAt.lists_lengths t t' hs hu0
        refine ⟨rc, SeqAt.EqAt.of_refs (fun z => ?_) rc⟩
        subst z
        obtain ⟨o, ho, hc, k, hd⟩ := t
        obtain ⟨o', ho', hc', k', hd'⟩ := t'
        rw [ho] at ho'; cases ho'
        rw [hd] at hd'
        injection hd' with hd' _
        rw [hd'] at hs
        simp at hs
end Mi
set_option Elab.async false
set_option linter.all false
set_option maxRecDepth 100000
set_option maxHeartbeats 2000000
namespace Mi
open PySem PySem.Spec PyProof.Rows L2

/-! ### order of data -/
def ltL (eq lt : D → D → Option Bool) : List D → List D → Option Bool
  | [], [] => some false
  | [], _ :: _ => some true
  | _ :: _, [] => some false
  | x :: xs, y :: ys => match eq x y, ltL eq lt xs ys with
    | some true, some r => some r
    | some false, some _ => lt x y
    | _, _ => none
def ltDn : Nat → D → D → Option Bool
  | 0, _, _ => none
  | _ + 1, .int i, .int j => some (decide (i < j))
  | _ + 1, .str x, .str y => some (decide (x < y))
  | n + 1, .tup xs, .tup ys => ltL (eqDn n) (ltDn n) xs ys
  | _ + 1, _, _ => none
theorem lexAt_shift {e r : Nat → Bool} {z : Bool} : ∀ {k i : Nat}, Ob.lexAt e r z (i + 1) k = Ob.lexAt (fun j => e (j + 1)) (fun j => r (j + 1)) z i k
  | 0, i => rfl
  | k + 1, i => by
    rw [Ob.lexAt_succ, Ob.lexAt_succ, lexAt_shift]
theorem ltL_all {eq lt : D → D → Option Bool} : ∀ {xs ys : List D} {b : Bool}, ltL eq lt xs ys = some b →
    b = Ob.lexAt (eqJ eq xs ys) (eqJ lt xs ys) (decide (xs.length < ys.length)) 0 (min xs.length ys.length) ∧
      ∀ (j : Nat) x y, xs[j]? = some x → ys[j]? = some y → eq x y = some (eqJ eq xs ys j) ∧ (eqJ eq xs ys j = false → lt x y = some (eqJ lt xs ys j))
  | [], [], b, e => by cases e; exact ⟨by simp [Ob.lexAt], fun j x y h => by simp at h⟩
  | [], _ :: _, b, e => by cases e; exact ⟨by simp [Ob.lexAt], fun j x y h => by simp at h⟩
  | _ :: _, [], b, e => by cases e; exact ⟨by simp [Ob.lexAt], fun j x y _ h => by simp at h⟩
  | x :: xs, y :: ys, b, e => by
    have hj : ∀ f j, eqJ f (x :: xs) (y :: ys) (j + 1) = eqJ f xs ys j := fun f j => by simp [eqJ]
    have hm : min (x :: xs).length (y :: ys).length = min xs.length ys.length + 1 := by simp only [List.length_cons]; omega
    have hd : decide ((x :: xs).length < (y :: ys).length) = decide (xs.length < ys.length) := by
      simp only [List.length_cons, Nat.add_lt_add_iff_right]
    simp only [ltL] at e
    split at e
    · rename_i r e1 e2
      cases e
      obtain ⟨h1, h2⟩ := ltL_all e2
      have h0 : eqJ eq (x :: xs) (y :: ys) 0 = true := by simp [eqJ, e1]
      refine ⟨?_, fun j a c ha hc => ?_⟩
      · rw [hm, Ob.lexAt_succ, if_pos h0, lexAt_shift, h1, hd]
        congr 1
      · cases j with
        | zero =>
          simp at ha hc
          subst ha; subst hc
          exact ⟨by rw [e1, h0], fun z => by rw [h0] at z; cases z⟩
        | succ j => exact h2 j a c (by simpa using ha) (by simpa using hc)
    · rename_i r e1 e2
      obtain ⟨h1, h2⟩ := ltL_all e2
      have h0 : eqJ eq (x :: xs) (y :: ys) 0 = false := by simp [eqJ, e1]
      have h3 : eqJ lt (x :: xs) (y :: ys) 0 = b := by simp [eqJ, e]
      refine ⟨?_, fun j a c ha hc => ?_⟩
      · rw [hm, Ob.lexAt_succ, if_neg (by rw [h0]; simp), h3]
      · cases j with
        | zero =>
          simp at ha hc
          subst ha; subst hc
          exact ⟨by rw [e1, h0], fun _ => by rw [h3, e]⟩
        | succ j => exact h2 j a c (by simpa using ha) (by simpa using hc)
    · cases e
theorem ltAt_of {s : Shared} : ∀ (n : Nat) (d e : D) (b : Bool) (u v : Value), Vd s.heap d u → Vd s.heap e v → ltDn n d e = some b → ∀ A : Around, A.units + n < cLine → Ob.RcOp .Lt A s u v b := by
  intro n
  induction n with
  | zero => intro d e b u v _ _ q; cases d <;> cases e <;> cases q
  | succ n ih =>
    intro d e b u v vd ve q A hu
    have hu0 : A.units < cLine := by omega
    cases d <;> cases e <;> simp only [ltDn] at q
    all_goals first
      | (cases q; done)
      | skip
    all_goals simp only [Vd] at vd ve
    case int.int => obtain ⟨t, rfl⟩ := vd; obtain ⟨t', rfl⟩ := ve; cases q; exact Ob.RcOp.lt_int _ _ _ _
    case str.str x y =>
      obtain ⟨t, rfl⟩ := vd; obtain ⟨t', rfl⟩ := ve; cases q
      exact fun prog w E Q h => PySem.P.lt_str (by simpa using h)
    case tup.tup ds es =>
      obtain ⟨a, its, rfl, t, qs⟩ := vd
      obtain ⟨a', its', rfl, t', qs'⟩ := ve
      obtain ⟨h1, h2⟩ := ltL_all q
      have key : ∀ j (g1 : j < its.length) (g2 : j < its'.length), ∃ x y, ds[j]? = some x ∧ es[j]? = some y ∧ Vd s.heap x its[j] ∧ Vd s.heap y its'[j] := fun j g1 g2 => by
        have l1 : ds[j]? = some (ds[j]'(by rw [← qs.length]; exact g1)) := List.getElem?_eq_getElem _
        have l2 : es[j]? = some (es[j]'(by rw [← qs'.length]; exact g2)) := List.getElem?_eq_getElem _
        exact ⟨_, _, l1, l2, qs.get l1 (List.getElem?_eq_getElem g1), qs'.get l2 (List.getElem?_eq_getElem g2)⟩
      have := Ob.RcOp.tuples_lt (e := eqJ (eqDn n) ds es) (r := eqJ (ltDn n) ds es) (show s.heap.IsTuple a its.toArray from t) (show s.heap.IsTuple a' its'.toArray from t') hu0 (fun j g1 g2 => by
          obtain ⟨x, y, l1, l2, v1, v2⟩ := key j (by simpa using g1) (by simpa using g2)
          have := (eqAt_of n _ _ _ _ _ v1 v2 (h2 j _ _ l1 l2).1 A.in1 (by show A.units + 1 + n < cLine; omega)).2
          simpa using this) fun j g1 g2 hf => by
          obtain ⟨x, y, l1, l2, v1, v2⟩ := key j (by simpa using g1) (by simpa using g2)
          have := ih _ _ _ _ _ v1 v2 ((h2 j _ _ l1 l2).2 hf) A.in1 (by show A.units + 1 + n < cLine; omega)
          simpa using this
      simp only [List.size_toArray] at this
      rw [qs.length, qs'.length, ← h1] at this
      exact this

/-! ### one value, two data -/
theorem vd_kind {h : Heap} {d d' : D} {u : Value} (q : Vd h d u) (q' : Vd h d' u) (p : ∀ n x b, eqDn n d x = some b → True) : True := trivial
def opq : D → Bool
  | .dic _ => true
  | .pot => true
  | .scr _ => true
  | .rep _ => true
  | _ => false
theorem eq_opq {n : Nat} {d x : D} {b : Bool} (e : eqDn n d x = some b) : opq d = false := by
  cases n with
  | zero => cases e
  | succ n => cases d <;> cases x <;> first | rfl | (simp [eqDn] at e; done)
inductive Like (h : Heap) : D → D → Prop
  | same (d : D) : Like h d d
  | tup {ds es : List D} {its : List Value} : Vds h ds its → Vds h es its → Like h (.tup ds) (.tup es)
  | lst {ds es : List D} {its : List Value} : Vds h ds its → Vds h es its → Like h (.lst ds) (.lst es)
theorem Vd.like {h : Heap} {d d' : D} {u : Value} (q : Vd h d u) (q' : Vd h d' u) (p : opq d = false) (p' : opq d' = false) : Like h d d' := by
  cases d <;> cases d' <;> first | (simp [opq] at p; done) | (simp [opq] at p'; done) | skip
  all_goals simp only [Vd] at q q'
  all_goals first
    | exact .same _
    | (subst q; cases q'; done)
    | (subst q; obtain ⟨_, _, z, _⟩ := q'; cases z; done)
    | (subst q; obtain ⟨_, z⟩ := q'; cases z; done)
    | (obtain ⟨_, q⟩ := q; subst q; cases q'; done)
    | (obtain ⟨_, q⟩ := q; subst q; obtain ⟨_, _, z, _⟩ := q'; cases z; done)
    | (obtain ⟨_, q⟩ := q; subst q; obtain ⟨_, z⟩ := q'; cases z; done)
    | (obtain ⟨_, _, q, _⟩ := q; subst q; cases q'; done)
    | (obtain ⟨_, _, q, _⟩ := q; subst q; obtain ⟨_, z⟩ := q'; cases z; done)
    | skip
  case bl.bl => subst q; cases q'; exact .same _
  case int.int => obtain ⟨t, q⟩ := q; obtain ⟨t', q'⟩ := q'; rw [q] at q'; cases q'; exact .same _
  case str.str x y =>
    obtain ⟨t, q⟩ := q
    obtain ⟨t', q'⟩ := q'
    rw [q] at q'
    injection q' with e1 _
    injection e1 with e1
    have : x = y := by simpa using congrArg Array.toList e1
    rw [this]; exact .same _
  case tup.tup ds es =>
    obtain ⟨a, its, z, t, qs⟩ := q
    obtain ⟨a', its', z', t', qs'⟩ := q'
    rw [z] at z'; cases z'
    obtain ⟨o, ho, hc, k, hd⟩ := t
    obtain ⟨o', ho', hc', k', hd'⟩ := t'
    rw [ho] at ho'; cases ho'
    rw [hd] at hd'
    injection hd' with hd' _
    have e0 : its = its' := by simpa using congrArg Array.toList hd'
    subst e0
    exact .tup qs qs'
  case tup.lst =>
    obtain ⟨a, its, z, t, qs⟩ := q
    obtain ⟨a', its', z', t', qs'⟩ := q'
    rw [z] at z'; cases z'
    exact (not_both t' t).elim
  case lst.tup =>
    obtain ⟨a, its, z, t, qs⟩ := q
    obtain ⟨a', its', z', t', qs'⟩ := q'
    rw [z] at z'; cases z'
    exact (not_both t t').elim
  case lst.lst ds es =>
    obtain ⟨a, its, z, t, qs⟩ := q
    obtain ⟨a', its', z', t', qs'⟩ := q'
    rw [z] at z'; cases z'
    obtain ⟨o, ho, hc, k, hd⟩ := t
    obtain ⟨o', ho', hc', k', hd'⟩ := t'
    rw [ho] at ho'; cases ho'
    rw [hd] at hd'
    injection hd' with hd' _
    have e0 : its = its' := by simpa using congrArg Array.toList hd'
    subst e0
    exact .lst qs qs'
theorem eqL_det {h : Heap} {n : Nat} (ih : ∀ d d' x b b' u, Vd h d u → Vd h d' u → eqDn n d x = some b → eqDn n d' x = some b' → b = b') : ∀ {ds es xs : List D} {its : List Value} {b b' : Bool}, Vds h ds its → Vds h es its →
    eqL (eqDn n) ds xs = some b → eqL (eqDn n) es xs = some b' → b = b'
  | [], [], xs, its, b, b', _, _, e, e' => by rw [e] at e'; cases e'; rfl
  | [], e :: es, xs, its, b, b', q, q', _, _ => by
    have := q.length; have := q'.length; simp_all
  | d :: ds, [], xs, its, b, b', q, q', _, _ => by
    have := q.length; have := q'.length; simp_all
  | d :: ds, e :: es, [], its, b, b', _, _, h1, h2 => by cases h1; cases h2; rfl
  | d :: ds, e :: es, x :: xs, its, b, b', q, q', h1, h2 => by
    simp only [Vds] at q q'
    obtain ⟨u, ur, rfl, q1, qr⟩ := q
    obtain ⟨u', ur', z, q1', qr'⟩ := q'
    cases z
    simp only [eqL] at h1 h2
    split at h1
    · rename_i c r e1 e2
      split at h2
      · rename_i c' r' e1' e2'
        cases h1; cases h2
        rw [ih _ _ _ _ _ _ q1 q1' e1 e1', eqL_det ih qr qr' e2 e2']
      · cases h2
    · cases h1
theorem eq_det {h : Heap} : ∀ (n : Nat) (d d' x : D) (b b' : Bool) (u : Value), Vd h d u → Vd h d' u → eqDn n d x = some b → eqDn n d' x = some b' → b = b' := by
  intro n
  induction n with
  | zero => intro d d' x b b' u _ _ q; cases d <;> cases x <;> cases q
  | succ n ih =>
    intro d d' x b b' u q q' e e'
    cases q.like q' (eq_opq e) (eq_opq e') with
    | same => rw [e] at e'; cases e'; rfl
    | tup qs qs' =>
      cases x <;> simp only [eqDn] at e e' <;> first
        | (cases e; cases e'; rfl)
        | (cases e; done)
        | exact eqL_det ih qs qs' e e'
    | lst qs qs' =>
      have hl := qs.length.symm.trans qs'.length
      cases x with
      | lst xs =>
        simp only [eqDn] at e e'
        rw [← hl] at e'
        split at e
        · rename_i g
          rw [if_pos g] at e'
          exact eqL_det ih qs qs' e e'
        · rename_i g
          rw [if_neg g] at e'
          cases e; cases e'; rfl
      | _ => simp only [eqDn] at e e' <;> first | (cases e; cases e'; rfl) | (cases e; done)
/-! ### != -/
theorem neAt_of {s : Shared} : ∀ (n : Nat) (d e : D) (b : Bool) (u v : Value), Vd s.heap d u → Vd s.heap e v → eqDn n d e = some b → ∀ A : Around, A.units + n < cLine → SeqAt.RcNeAt A s u v (!b) := by
  intro n
  cases n with
  | zero => intro d e b u v _ _ q; cases d <;> cases e <;> cases q
  | succ n =>
    intro d e b u v vd ve q A hu
    have hu0 : A.units < cLine := by omega
    cases d <;> cases e <;> simp only [eqDn] at q
    all_goals first
      | (cases q; done)
      | skip
    all_goals simp only [Vd] at vd ve
    case non.non => subst vd; subst ve; cases q; exact SeqAt.RcNeAt.none_none
    case non.bl => subst vd; subst ve; cases q; exact SeqAt.RcNeAt.none_bool _
    case non.int => subst vd; obtain ⟨t, rfl⟩ := ve; cases q; exact SeqAt.RcNeAt.none_int _ _
    case non.str => subst vd; obtain ⟨t, rfl⟩ := ve; cases q; exact SeqAt.RcNeAt.none_str _ _
    case non.tup => subst vd; obtain ⟨a, its, rfl, t, _⟩ := ve; cases q; exact SeqAt.RcNeAt.none_tuple t hu0
    case non.lst => subst vd; obtain ⟨a, its, rfl, t, _⟩ := ve; cases q; exact SeqAt.RcNeAt.none_list t hu0
    case bl.non => subst vd; subst ve; cases q; exact SeqAt.RcNeAt.bool_none _
    case bl.bl => subst vd; subst ve; cases q; exact SeqAt.RcNeAt.bool_bool _ _
    case bl.int => subst vd; obtain ⟨t, rfl⟩ := ve; cases q; exact SeqAt.RcNeAt.bool_int _ _ _
    case bl.str => subst vd; obtain ⟨t, rfl⟩ := ve; cases q; exact SeqAt.RcNeAt.bool_str _ _ _
    case bl.tup => subst vd; obtain ⟨a, its, rfl, t, _⟩ := ve; cases q; exact SeqAt.RcNeAt.bool_tuple _ t hu0
    case bl.lst => subst vd; obtain ⟨a, its, rfl, t, _⟩ := ve; cases q; exact SeqAt.RcNeAt.bool_list _ t hu0
    case int.non => obtain ⟨t, rfl⟩ := vd; subst ve; cases q; exact SeqAt.RcNeAt.int_none _ _
    case int.bl => obtain ⟨t, rfl⟩ := vd; subst ve; cases q; exact SeqAt.RcNeAt.int_bool _ _ _
    case int.int => obtain ⟨t, rfl⟩ := vd; obtain ⟨t', rfl⟩ := ve; cases q; exact SeqAt.RcNeAt.int_int _ _ _ _
    case int.str => obtain ⟨t, rfl⟩ := vd; obtain ⟨t', rfl⟩ := ve; cases q; exact SeqAt.RcNeAt.int_str _ _ _ _
    case int.tup => obtain ⟨t, rfl⟩ := vd; obtain ⟨a, its, rfl, t, _⟩ := ve; cases q; exact SeqAt.RcNeAt.int_tuple _ _ t hu0
    case int.lst => obtain ⟨t, rfl⟩ := vd; obtain ⟨a, its, rfl, t, _⟩ := ve; cases q; exact SeqAt.RcNeAt.int_list _ _ t hu0
    case str.non => obtain ⟨t, rfl⟩ := vd; subst ve; cases q; exact SeqAt.RcNeAt.str_none _ _
    case str.bl => obtain ⟨t, rfl⟩ := vd; subst ve; cases q; exact SeqAt.RcNeAt.str_bool _ _ _
    case str.int => obtain ⟨t, rfl⟩ := vd; obtain ⟨t', rfl⟩ := ve; cases q; exact SeqAt.RcNeAt.str_int _ _ _ _
    case str.str x y =>
      obtain ⟨t, rfl⟩ := vd; obtain ⟨t', rfl⟩ := ve; cases q
      have e1 : (x == y) = ((⟨x.toArray⟩ : Str) == ⟨y.toArray⟩) := by
        by_cases h : x = y
        · subst h; simp
        · have h' : (⟨x.toArray⟩ : Str) ≠ ⟨y.toArray⟩ := fun z => h (by injection z with z; simpa using congrArg Array.toList z)
          rw [beq_eq_false_iff_ne.mpr h, beq_eq_false_iff_ne.mpr h']
      rw [e1]
      exact SeqAt.RcNeAt.str_str _ _ _ _
    case str.tup => obtain ⟨t, rfl⟩ := vd; obtain ⟨a, its, rfl, t, _⟩ := ve; cases q; exact SeqAt.RcNeAt.str_tuple _ _ t hu0
    case str.lst => obtain ⟨t, rfl⟩ := vd; obtain ⟨a, its, rfl, t, _⟩ := ve; cases q; exact SeqAt.RcNeAt.str_list _ _ t hu0
    case tup.non => obtain ⟨a, its, rfl, t, _⟩ := vd; subst ve; cases q; exact SeqAt.RcNeAt.tuple_none t hu0
    case tup.bl => obtain ⟨a, its, rfl, t, _⟩ := vd; subst ve; cases q; exact SeqAt.RcNeAt.tuple_bool _ t hu0
    case tup.int => obtain ⟨a, its, rfl, t, _⟩ := vd; obtain ⟨t', rfl⟩ := ve; cases q; exact SeqAt.RcNeAt.tuple_int _ _ t hu0
    case tup.str => obtain ⟨a, its, rfl, t, _⟩ := vd; obtain ⟨t', rfl⟩ := ve; cases q; exact SeqAt.RcNeAt.tuple_str _ _ t hu0
    case tup.tup ds es =>
      obtain ⟨a, its, rfl, t, qs⟩ := vd
      obtain ⟨a', its', rfl, t', qs'⟩ := ve
      obtain ⟨h1, h2⟩ := eqL_all q
      have rc : SeqAt.RcNeAt A s (.ref a) (.ref a') (!b) := by
        have := SeqAt.RcNeAt.tuples (e := eqJ (eqDn n) ds es) (show s.heap.IsTuple a its.toArray from t) (show s.heap.IsTuple a' its'.toArray from t') hu0 fun j g1 g2 => by
          have g1' : j < its.length := by simpa using g1
          have g2' : j < its'.length := by simpa using g2
          have l1 : ds[j]? = some (ds[j]'(by rw [← qs.length]; exact g1')) := List.getElem?_eq_getElem _
          have l2 : es[j]? = some (es[j]'(by rw [← qs'.length]; exact g2')) := List.getElem?_eq_getElem _
          have r1 : its[j]? = some (its[j]'g1') := List.getElem?_eq_getElem _
          have r2 : its'[j]? = some (its'[j]'g2') := List.getElem?_eq_getElem _
          have := (eqAt_of n _ _ _ _ _ (qs.get l1 r1) (qs'.get l2 r2) (h2 j _ _ l1 l2) A.in1 (by show A.units + 1 + n < cLine; omega)).2
          simpa using this
        simp only [List.size_toArray] at this
        rw [qs.length, qs'.length, ← h1] at this
        exact this
      exact rc
    case tup.lst => obtain ⟨a, its, rfl, t, _⟩ := vd; obtain ⟨a', its', rfl, t', _⟩ := ve; cases q; exact SeqAt.RcNeAt.tuple_list t t' hu0
    case lst.non => obtain ⟨a, its, rfl, t, _⟩ := vd; subst ve; cases q; exact SeqAt.RcNeAt.list_none t hu0
    case lst.bl => obtain ⟨a, its, rfl, t, _⟩ := vd; subst ve; cases q; exact SeqAt.RcNeAt.list_bool _ t hu0
    case lst.int => obtain ⟨a, its, rfl, t, _⟩ := vd; obtain ⟨t', rfl⟩ := ve; cases q; exact SeqAt.RcNeAt.list_int _ _ t hu0
    case lst.str => obtain ⟨a, its, rfl, t, _⟩ := vd; obtain ⟨t', rfl⟩ := ve; cases q; exact SeqAt.RcNeAt.list_str _ _ t hu0
    case lst.tup => obtain ⟨a, its, rfl, t, _⟩ := vd; obtain ⟨a', its', rfl, t', _⟩ := ve; cases q; exact SeqAt.RcNeAt.list_tuple t t' hu0
    case lst.lst ds es =>
      obtain ⟨a, its, rfl, t, qs⟩ := vd
      obtain ⟨a', its', rfl, t', qs'⟩ := ve
      by_cases hlen : ds.length = es.length
      · rw [if_pos hlen] at q
        obtain ⟨h1, h2⟩ := eqL_all q
        have rc : SeqAt.RcNeAt A s (.ref a) (.ref a') (!b) := by
          have := SeqAt.RcNeAt.lists (e := eqJ (eqDn n) ds es) t t' (by simp [qs.length, qs'.length, hlen]) hu0 fun j g1 g2 => by
            have g1' : j < its.length := by simpa using g1
            have g2' : j < its'.length := by simpa using g2
            have l1 : ds[j]? = some (ds[j]'(by rw [← qs.length]; exact g1')) := List.getElem?_eq_getElem _
            have l2 : es[j]? = some (es[j]'(by rw [← qs'.length]; exact g2')) := List.getElem?_eq_getElem _
            have r1 : its[j]? = some (its[j]'g1') := List.getElem?_eq_getElem _
            have r2 : its'[j]? = some (its'[j]'g2') := List.getElem?_eq_getElem _
            have := (eqAt_of n _ _ _ _ _ (qs.get l1 r1) (qs'.get l2 r2) (h2 j _ _ l1 l2) A.in1 (by show A.units + 1 + n < cLine; omega)).2
            simpa using this
          have hb : b = (List.range its.toArray.size).all (eqJ (eqDn n) ds es) := by
            rw [h1, ← hlen]; simp [qs.length]
          rw [hb]; exact this
        exact rc
      · rw [if_neg hlen] at q
        cases q
        have hs : (its.toArray.size != its'.toArray.size) = true := by
          simp [qs.length, qs'.length, hlen]
        have rc := SeqAt.RcNeAt.lists_lengths t t' hs hu0
        exact rc
end Mi
set_option Elab.async false
set_option linter.all false
set_option maxRecDepth 100000
set_option maxHeartbeats 2000000
namespace Mi
open PySem PySem.Spec PyProof.Rows L2

/-! ### operations by data -/
def noSl : Hd → Bool
  | .slot _ => false
  | _ => true
def rD (K : PySem.W.Frag) (g : D → D → Option Hd) : R2 := fun x y H Q => ∃ (F P : Addr → Prop) (d1 d2 : D) (h : Hd), RC K F P H d1 x ∧ RC K F P H d2 y ∧ g d1 d2 = some h ∧ ResK K F P H h Q
def rD1 (K : PySem.W.Frag) (g : D → Option Hd) : V → Hp → VK → Prop := fun x H Q => ∃ (F P : Addr → Prop) (d1 : D) (h : Hd), RC K F P H d1 x ∧ g d1 = some h ∧ ResK K F P H h Q
def rDN (K : PySem.W.Frag) (g : List D → Option Hd) : List V → Hp → VK → Prop := fun xs H Q => ∃ (F P : Addr → Prop) (ds : List D) (h : Hd), RCs K F P H ds xs ∧ g ds = some h ∧ ResK K F P H h Q
/-- a result is never a slot -/
def NS2 (g : D → D → Option Hd) : Prop := ∀ d e h, g d e = some h → noSl h = true
def NS1 (g : D → Option Hd) : Prop := ∀ d h, g d = some h → noSl h = true
def NSN (g : List D → Option Hd) : Prop := ∀ d h, g d = some h → noSl h = true
theorem noSl_ne {h : Hd} (e : noSl h = true) : ∀ i, h ≠ .slot i := fun i z => by subst z; cases e
theorem op2_rD {K : PySem.W.Frag} {g : D → D → Option Hd} (n : NS2 g) : Op2 K (rD K g) g := by
  intro F P H d1 d2 v1 v2 h Q r1 r2 e
  exact ⟨noSl_ne (n _ _ _ e), fun q => ⟨F, P, d1, d2, h, r1, r2, e, q⟩⟩
theorem op1_rD {K : PySem.W.Frag} {g : D → Option Hd} (n : NS1 g) : Op1 K (rD1 K g) g := by
  intro F P H d1 v1 h Q r1 e
  exact ⟨noSl_ne (n _ _ e), fun q => ⟨F, P, d1, h, r1, e, q⟩⟩
theorem opN_rD {K : PySem.W.Frag} {g : List D → Option Hd} (n : NSN g) : OpN K (rDN K g) g := by
  intro F P H ds vs h Q r1 e
  exact ⟨noSl_ne (n _ _ e), fun q => ⟨F, P, ds, h, r1, e, q⟩⟩
section
variable {K : PySem.W.Frag} {F P : Addr → Prop} {H : Hp} {v : V}
theorem RC.non (h : RC K F P H .non v) : v = .non := by
  rcases h with h | ⟨_, _, o⟩
  · simpa only [RV] using h
  · exact o.elim
theorem RC.bl {b : Bool} (h : RC K F P H (.bl b) v) : v = .bl b := by
  rcases h with h | ⟨_, _, o⟩
  · simpa only [RV] using h
  · exact o.elim
theorem RC.int {i : Int} (h : RC K F P H (.int i) v) : v = .int i := by
  rcases h with h | ⟨_, _, o⟩
  · simpa only [RV] using h
  · exact o.elim
theorem RC.str {x : List Nat} (h : RC K F P H (.str x) v) : v = .str ⟨x.toArray⟩ := by
  rcases h with h | ⟨_, _, o⟩
  · simpa only [RV] using h
  · exact o.elim
theorem RC.tup {ds : List D} (h : RC K F P H (.tup ds) v) : ∃ a vs, v = .ref a ∧ H a = some (.tup vs) ∧ RVs K F P H ds vs := by
  rcases h with h | ⟨_, _, o⟩
  · simpa only [RV] using h
  · exact o.elim
theorem RC.lst {ds : List D} (h : RC K F P H (.lst ds) v) : ∃ a vs, v = .ref a ∧ H a = some (.lst vs) ∧ RVs K F P H ds vs := by
  rcases h with h | ⟨a, e, vs, o, r⟩
  · simp only [RV] at h
    obtain ⟨a, vs, e, _, q, r⟩ := h
    exact ⟨a, vs, e, q, r⟩
  · exact ⟨a, vs, e, o, r⟩
theorem RC.scr {ns : List Int} (h : RC K F P H (.scr ns) v) : ∃ a, v = .ref a ∧ SqL K H a (ns.map V.int) := by
  rcases h with h | ⟨_, _, o⟩
  · simp only [RV] at h
    obtain ⟨a, e, q⟩ := h
    exact ⟨a, e, q.seq⟩
  · exact o.elim
theorem rv_int {i : Int} : RV K F P H (.int i) (.int i) := by simp only [RV]
theorem rv_bl {b : Bool} : RV K F P H (.bl b) (.bl b) := by simp only [RV]
theorem rv_non : RV K F P H .non .non := by simp only [RV]
theorem rv_tup {a : Addr} {vs : List V} {ds : List D} (h : H a = some (.tup vs)) (r : RVs K F P H ds vs) : RV K F P H (.tup ds) (.ref a) := by
  simp only [RV]; exact ⟨a, vs, rfl, h, r⟩
end

/-! ### arithmetic -/
def gAdd : D → D → Option Hd
  | .int i, .int j => some (.val (.int (i + j)))
  | .tup a, .tup b => if a.length + b.length ≤ 16777216 then some (.val (.tup (a ++ b))) else none
  | .lst a, .lst b => if a.length + b.length ≤ 16777216 then some (.tmp (.lst (a ++ b))) else none
  | _, _ => none
theorem gAdd_ns : NS2 gAdd := by
  intro d e h q
  unfold gAdd at q
  split at q <;> first | (cases q; rfl) | (split at q <;> cases q; rfl) | cases q
section
variable {X : Cx}
theorem sz {n : Nat} (h : n ≤ 16777216) : n ≤ sizeLine := by rw [sizeLine_eq]; exact h
theorem op_addM : OpR X (binaryOp .Add) (rD X.K gAdd) := by
  intro pins s σ H x y v u Q I rx ry ⟨F, P, d1, d2, h, r1, r2, e, res⟩
  unfold gAdd at e
  split at e
  · cases e
    rw [r1.int] at rx
    rw [r2.int] at ry
    exact op_add pins s σ H _ _ v u Q I rx ry ⟨_, _, rfl, rfl, res.1 _ rv_int⟩
  · rename_i ds es
    split at e
    · rename_i hl
      cases e
      obtain ⟨a, vs, rfl, ha, ra⟩ := r1.tup
      obtain ⟨b, ws, rfl, hb, rb⟩ := r2.tup
      refine op_catA pins s σ H _ _ v u Q I rx ry ⟨a, b, vs, ws, rfl, rfl, .of ha, .of hb, by rw [ra.length, rb.length]; exact sz hl, fun z => ?_, fun _ z => ?_, fun _ _ p hp => ?_⟩
      · subst z
        have : ds = [] := List.eq_nil_of_length_eq_zero (by rw [← ra.length]; rfl)
        subst this
        exact res.1 _ (by simpa using rv_tup hb rb)
      · subst z
        have : es = [] := List.eq_nil_of_length_eq_zero (by rw [← rb.length]; rfl)
        subst this
        exact res.1 _ (by simpa using rv_tup ha ra)
      · exact res.2 p _ _ rfl (ra.append rb) hp
    · cases e
  · rename_i ds es
    split at e
    · rename_i hl
      cases e
      obtain ⟨a, vs, rfl, ha, ra⟩ := r1.lst
      obtain ⟨b, ws, rfl, hb, rb⟩ := r2.lst
      exact op_cat pins s σ H _ _ v u Q I rx ry ⟨a, b, vs, ws, rfl, rfl, ha, hb, by rw [ra.length, rb.length]; exact sz hl, fun p hp => res p _ _ rfl (ra.append rb) hp⟩
    · cases e
  · cases e
/-- ints alone -/
def gI (g : Int → Int → Option D) : D → D → Option Hd
  | .int i, .int j => (g i j).map .val
  | _, _ => none
theorem gI_ns {g : Int → Int → Option D} : NS2 (gI g) := by
  intro d e h q
  unfold gI at q
  split at q
  · rename_i i j
    cases z : g i j with
    | none => rw [z] at q; cases q
    | some d => rw [z] at q; cases q; rfl
  · cases q
theorem op_I {f : Value → Value → Sem Value} {C : Int → Int → Prop} {k : Int → Int → V} {g : Int → Int → Option D} (ho : OpR X f (rI C k)) (hg : ∀ i j d, g i j = some d → C i j ∧ ∀ F P H, RV X.K F P H d (k i j)) : OpR X f (rD X.K (gI g)) := by
  intro pins s σ H x y v u Q I rx ry ⟨F, P, d1, d2, h, r1, r2, e, res⟩
  unfold gI at e
  split at e
  · rename_i i j
    cases z : g i j with
    | none => rw [z] at e; cases e
    | some d =>
      rw [z] at e; cases e
      rw [r1.int] at rx
      rw [r2.int] at ry
      obtain ⟨c, rv⟩ := hg i j d z
      exact ho pins s σ H _ _ v u Q I rx ry ⟨i, j, rfl, rfl, c, res.1 _ (rv F P H)⟩
  · cases e
theorem op_I0 {f : Value → Value → Sem Value} {k : Int → Int → V} {g : Int → Int → Option D} (ho : OpR X f (rI0 k)) (hg : ∀ i j d, g i j = some d → ∀ F P H, RV X.K F P H d (k i j)) : OpR X f (rD X.K (gI g)) := by
  intro pins s σ H x y v u Q I rx ry ⟨F, P, d1, d2, h, r1, r2, e, res⟩
  unfold gI at e
  split at e
  · rename_i i j
    cases z : g i j with
    | none => rw [z] at e; cases e
    | some d =>
      rw [z] at e; cases e
      rw [r1.int] at rx
      rw [r2.int] at ry
      exact ho pins s σ H _ _ v u Q I rx ry ⟨i, j, rfl, rfl, res.1 _ (hg i j d z F P H)⟩
  · cases e
def iSub (i j : Int) : Option D := some (.int (i - j))
def iMul (i j : Int) : Option D := if i.natAbs < 18446744073709551616 ∨ j.natAbs < 18446744073709551616 then some (.int (i * j)) else none
def iDiv (i j : Int) : Option D := if 0 < j ∧ j < 1073741824 then some (.int (i / j)) else none
def iMod (i j : Int) : Option D := if 0 < j then some (.int (i % j)) else none
def CPowB (i j : Int) : Prop := 0 ≤ j ∧ (Builtin.Int.intBits i : Int) * j ≤ 2 ^ 27
theorem op_powB {X : Cx} : OpR X (binaryOp .Pow) (rI CPowB fun i j => .int (i ^ j.toNat)) := opI fun _ _ _ _ _ _ _ hc q => pow_int hc.1 hc.2 q
def iPow (i j : Int) : Option D := if 0 ≤ j ∧ (Builtin.Int.intBits i : Int) * j ≤ 134217728 then some (.int (i ^ j.toNat)) else none
def iShl (i j : Int) : Option D := if 0 ≤ j ∧ j ≤ 1000000 ∧ i.natAbs < 18446744073709551616 then some (.int (i * 2 ^ j.toNat)) else none
def iShr (i j : Int) : Option D := if 0 ≤ j then some (.int (i / 2 ^ j.toNat)) else none
def iAnd (i j : Int) : Option D := some (.int (Builtin.bitAnd i j))
def iXor (i j : Int) : Option D := some (.int (Builtin.bitXor i j))
def iLe (i j : Int) : Option D := some (.bl (decide (i ≤ j)))
def iGt (i j : Int) : Option D := some (.bl (decide (j < i)))
def iGe (i j : Int) : Option D := some (.bl (decide (j ≤ i)))
theorem op_subM : OpR X (binaryOp .Sub) (rD X.K (gI iSub)) := op_I0 op_sub fun i j d e F P H => by cases e; exact rv_int
theorem op_divM : OpR X (binaryOp .FloorDiv) (rD X.K (gI iDiv)) := op_I op_fdiv fun i j d e => by
  unfold iDiv at e
  split at e
  · rename_i c; cases e; exact ⟨c, fun F P H => rv_int⟩
  · cases e
theorem op_modM : OpR X (binaryOp .Mod) (rD X.K (gI iMod)) := op_I op_mod fun i j d e => by
  unfold iMod at e
  split at e
  · rename_i c; cases e; exact ⟨c, fun F P H => rv_int⟩
  · cases e
theorem op_powM : OpR X (binaryOp .Pow) (rD X.K (gI iPow)) := op_I op_powB fun i j d e => by
  unfold iPow at e
  split at e
  · rename_i c; cases e; exact ⟨c, fun F P H => rv_int⟩
  · cases e
theorem op_shlM : OpR X (binaryOp .LShift) (rD X.K (gI iShl)) := op_I op_shl fun i j d e => by
  unfold iShl at e
  split at e
  · rename_i c; cases e; exact ⟨c, fun F P H => rv_int⟩
  · cases e
theorem op_shrM : OpR X (binaryOp .RShift) (rD X.K (gI iShr)) := op_I op_shr fun i j d e => by
  unfold iShr at e
  split at e
  · rename_i c; cases e; exact ⟨c, fun F P H => rv_int⟩
  · cases e
theorem op_andM : OpR X (binaryOp .BitAnd) (rD X.K (gI iAnd)) := op_I0 op_and fun i j d e F P H => by cases e; exact rv_int
theorem op_xorM : OpR X (binaryOp .BitXor) (rD X.K (gI iXor)) := op_I0 op_xor fun i j d e F P H => by cases e; exact rv_int
theorem op_leM : OpR X (compareOp .LtE) (rD X.K (gI iLe)) := op_I0 op_le fun i j d e F P H => by cases e; exact rv_bl
theorem op_gtM : OpR X (compareOp .Gt) (rD X.K (gI iGt)) := op_I0 op_gt fun i j d e F P H => by cases e; exact rv_bl
theorem op_geM : OpR X (compareOp .GtE) (rD X.K (gI iGe)) := op_I0 op_ge fun i j d e F P H => by cases e; exact rv_bl
/-- *: ints; a list by an int -/
def gMul : D → D → Option Hd
  | .int i, .int j => (iMul i j).map .val
  | .lst a, .int k => if 0 ≤ k ∧ k ≤ 16777216 ∧ a.length * k.toNat ≤ 16777216 then some (.tmp (.lst (List.replicate k.toNat a).flatten)) else none
  | _, _ => none
theorem gMul_ns : NS2 gMul := by
  intro d e h q
  unfold gMul at q
  split at q
  · rename_i i j
    cases z : iMul i j with
    | none => rw [z] at q; cases q
    | some d => rw [z] at q; cases q; rfl
  · split at q <;> cases q; rfl
  · cases q
theorem RVs.rep {K : PySem.W.Frag} {F P : Addr → Prop} {H : Hp} {ds : List D} {vs : List V} (h : RVs K F P H ds vs) : ∀ k : Nat, RVs K F P H (List.replicate k ds).flatten (List.replicate k vs).flatten
  | 0 => .nil
  | k + 1 => by
    rw [List.replicate_succ, List.replicate_succ, List.flatten_cons, List.flatten_cons]
    exact h.append (RVs.rep h k)
theorem op_mulM : OpR X (binaryOp .Mult) (rD X.K gMul) := by
  intro pins s σ H x y v u Q I rx ry ⟨F, P, d1, d2, h, r1, r2, e, res⟩
  unfold gMul at e
  split at e
  · rename_i i j
    unfold iMul at e
    split at e
    · rename_i c
      cases e
      rw [r1.int] at rx
      rw [r2.int] at ry
      refine op_mul pins s σ H _ _ v u Q I rx ry ⟨i, j, rfl, rfl, ?_, res.1 _ rv_int⟩
      unfold CMul
      omega
    · cases e
  · rename_i ds k
    split at e
    · rename_i hk
      cases e
      obtain ⟨a, vs, rfl, ha, ra⟩ := r1.lst
      rw [r2.int] at ry
      refine op_rep pins s σ H _ _ v u Q I rx ry ⟨a, k, vs, rfl, rfl, ha, by omega, by omega, by rw [ra.length]; exact sz hk.2.2, fun p hp => res p _ _ rfl (ra.rep _) hp⟩
    · cases e
  · cases e
/-! ### comparisons -/
def DEEP : Nat := 40
def gEq (d e : D) : Option Hd := (eqDn DEEP d e).map fun b => .val (.bl b)
def gNe (d e : D) : Option Hd := (eqDn DEEP d e).map fun b => .val (.bl (!b))
def gLt (d e : D) : Option Hd := (ltDn DEEP d e).map fun b => .val (.bl b)
theorem map_ns {α : Type} {o : Option α} {f : α → D} {h : Hd} (e : o.map (fun b => Hd.val (f b)) = some h) : noSl h = true := by
  cases o with
  | none => cases e
  | some a => cases e; rfl
theorem gEq_ns : NS2 gEq := fun d e h q => map_ns q
theorem gNe_ns : NS2 gNe := fun d e h q => map_ns q
theorem gLt_ns : NS2 gLt := fun d e h q => map_ns q
theorem op_eqM (hu : X.A.units + DEEP < cLine) : OpR X (compareOp .Eq) (rD X.K gEq) := by
  intro pins s σ H x y v u Q I rx ry ⟨F, P, d1, d2, h, r1, r2, e, res⟩
  unfold gEq at e
  cases z : eqDn DEEP d1 d2 with
  | none => rw [z] at e; cases e
  | some b =>
    rw [z] at e; cases e
    exact (eqAt_of DEEP d1 d2 b v u (r1.vd I rx) (r2.vd I ry) z X.A hu).1 _ _ _ _ ⟨.bl b, H, I, rfl, res.1 _ rv_bl⟩
end
end Mi
set_option Elab.async false
set_option linter.all false
set_option maxRecDepth 100000
set_option maxHeartbeats 2000000
namespace Mi
open PySem PySem.Spec PyProof.Rows L2

section
variable {X : Cx}
theorem op_neM (hu : X.A.units + DEEP < cLine) : OpR X (compareOp .NotEq) (rD X.K gNe) := by
  intro pins s σ H x y v u Q I rx ry ⟨F, P, d1, d2, h, r1, r2, e, res⟩
  unfold gNe at e
  cases z : eqDn DEEP d1 d2 with
  | none => rw [z] at e; cases e
  | some b =>
    rw [z] at e; cases e
    exact neAt_of DEEP d1 d2 b v u (r1.vd I rx) (r2.vd I ry) z X.A hu _ _ _ _ ⟨.bl (!b), H, I, rfl, res.1 _ rv_bl⟩
theorem op_ltM (hu : X.A.units + DEEP < cLine) : OpR X (compareOp .Lt) (rD X.K gLt) := by
  intro pins s σ H x y v u Q I rx ry ⟨F, P, d1, d2, h, r1, r2, e, res⟩
  unfold gLt at e
  cases z : ltDn DEEP d1 d2 with
  | none => rw [z] at e; cases e
  | some b =>
    rw [z] at e; cases e
    exact ltAt_of DEEP d1 d2 b v u (r1.vd I rx) (r2.vd I ry) z X.A hu _ _ _ _ ⟨.bl b, H, I, rfl, res.1 _ rv_bl⟩
end

/-! ### in -/
def anyO (f : D → Option Bool) : List D → Option Bool
  | [] => some false
  | x :: xs => match f x, anyO f xs with
    | some b, some r => some (b || r)
    | _, _ => none
def idxO (f : D → Option Bool) : List D → Option Nat
  | [] => none
  | x :: xs => match f x with
    | some true => some 0
    | some false => (idxO f xs).map (· + 1)
    | none => none
noncomputable def eqF (h : Heap) (n : Nat) (d : D) (y : Value) : Bool := @decide (∃ d', Vd h d' y ∧ eqDn n d' d = some true) (Classical.propDecidable _)
theorem eqF_eq {h : Heap} {n : Nat} {d d' : D} {y : Value} {b : Bool} (v : Vd h d' y) (e : eqDn n d' d = some b) : eqF h n d y = b := by
  unfold eqF
  cases b with
  | true => exact @decide_eq_true _ (Classical.propDecidable _) ⟨d', v, e⟩
  | false =>
    refine @decide_eq_false _ (Classical.propDecidable _) fun ⟨d'', v', e'⟩ => ?_
    have := eq_det n _ _ _ _ _ _ v v' e e'
    cases this
theorem anyO_at {f : D → Option Bool} : ∀ {xs : List D} {b : Bool}, anyO f xs = some b → ∀ x, x ∈ xs → ∃ c, f x = some c
  | [], b, e, x, m => by cases m
  | y :: xs, b, e, x, m => by
    unfold anyO at e
    split at e
    · rename_i c r e1 e2
      rcases List.mem_cons.mp m with rfl | m
      · exact ⟨c, e1⟩
      · exact anyO_at e2 x m
    · cases e
theorem anyO_any {s : Shared} {n : Nat} {d : D} : ∀ {ds : List D} {its : List Value} {b : Bool}, Vds s.heap ds its → anyO (fun x => eqDn n x d) ds = some b → its.any (eqF s.heap n d) = b
  | [], its, b, v, e => by
    simp only [Vds] at v; subst v
    cases e; rfl
  | x :: ds, its, b, v, e => by
    simp only [Vds] at v
    obtain ⟨u, ur, rfl, q, r⟩ := v
    unfold anyO at e
    split at e
    · rename_i c r' e1 e2
      cases e
      rw [List.any_cons, eqF_eq q e1, anyO_any r e2]
    · cases e
theorem Vds.mem {h : Heap} {ds : List D} {us : List Value} {y : Value} (q : Vds h ds us) (m : y ∈ us) : ∃ (i : Nat) (d : D), ds[i]? = some d ∧ us[i]? = some y ∧ Vd h d y := by
  obtain ⟨i, hi, e⟩ := List.getElem_of_mem m
  have h1 : us[i]? = some y := by rw [List.getElem?_eq_getElem hi, e]
  have h2 : ds[i]? = some (ds[i]'(by rw [← q.length]; exact hi)) := List.getElem?_eq_getElem _
  exact ⟨i, _, h2, h1, q.get h2 h1⟩
theorem eqF_at {s : Shared} {n : Nat} {d : D} {u : Value} {ds : List D} {its : List Value} (v : Vds s.heap ds its) (vd : Vd s.heap d u) (e : ∀ x, x ∈ ds → ∃ c, eqDn n x d = some c) (A : Around) (hu : A.units + n < cLine) :
    ∀ y, y ∈ its → SeqAt.EqAt A s y u (eqF s.heap n d y) := by
  intro y m
  obtain ⟨i, x, e1, e2, q⟩ := v.mem m
  obtain ⟨c, ec⟩ := e x (List.mem_of_getElem? e1)
  rw [eqF_eq q ec]
  exact (eqAt_of n x d c y u q vd ec A hu).2
def seqD : D → Option (List D)
  | .tup l => some l
  | .lst l => some l
  | _ => none
def inO (d e : D) : Option Bool := match seqD e with
  | some l => anyO (fun x => eqDn DEEP x d) l
  | none => none
def gIn (d e : D) : Option Hd := (inO d e).map fun b => .val (.bl b)
def gNi (d e : D) : Option Hd := (inO d e).map fun b => .val (.bl (!b))
theorem gIn_ns : NS2 gIn := fun d e h q => map_ns q
theorem gNi_ns : NS2 gNi := fun d e h q => map_ns q
section
variable {X : Cx}
theorem RC.seq {K : PySem.W.Frag} {F P : Addr → Prop} {H : Hp} {d : D} {l : List D} {v : V} (h : RC K F P H d v) (e : seqD d = some l) : ∃ a vs, v = .ref a ∧ RVs K F P H l vs ∧ (H a = some (.tup vs) ∧ d = .tup l ∨ H a = some (.lst vs) ∧ d = .lst l) := by
  cases d with
  | tup l' =>
    cases e
    obtain ⟨a, vs, e, q, r⟩ := h.tup
    exact ⟨a, vs, e, r, .inl ⟨q, rfl⟩⟩
  | lst l' =>
    cases e
    obtain ⟨a, vs, e, q, r⟩ := h.lst
    exact ⟨a, vs, e, r, .inr ⟨q, rfl⟩⟩
  | _ => cases e
theorem op_inM (hu : X.A.units + DEEP + 1 < cLine) : OpR X (compareOp .In) (rD X.K gIn) := by
  intro pins s σ H x y v u Q I rx ry ⟨F, P, d1, d2, h, r1, r2, e, res⟩
  unfold gIn at e
  cases z : inO d1 d2 with
  | none => rw [z] at e; cases e
  | some b =>
    rw [z] at e; cases e
    unfold inO at z
    split at z
    · rename_i l el
      obtain ⟨a, vs, rfl, rs, ha⟩ := r2.seq el
      cases ry
      have hu' : X.A.in1.units + DEEP < cLine := by show X.A.units + 1 + DEEP < cLine; omega
      rcases ha with ⟨ha, _⟩ | ⟨ha, _⟩
      · obtain ⟨its, rv, p, _⟩ := I.tuple (.of ha)
        have vd := RVs.vd I l vs its rs rv
        refine SeqAt.in_tupleAt (items := its.toArray) (eqF s.heap DEEP d1) (show s.heap.IsTuple a its.toArray from p) (fun y m => eqF_at vd (r1.vd I rx) (anyO_at z) X.A.in1 hu' y (by simpa using m)) ?_
        have := anyO_any vd z
        simp only [List.any_toArray, this]
        exact ⟨.bl b, H, I, rfl, res.1 _ rv_bl⟩
      · obtain ⟨its, rv, p, _⟩ := I.list (.of ha)
        have vd := RVs.vd I l vs its rs rv
        refine SeqAt.in_listAt (items := its.toArray) (eqF s.heap DEEP d1) p.isList (fun y m => eqF_at vd (r1.vd I rx) (anyO_at z) X.A.in1 hu' y (by simpa using m)) ?_
        have := anyO_any vd z
        simp only [List.any_toArray, this]
        exact ⟨.bl b, H, I, rfl, res.1 _ rv_bl⟩
    · cases z
theorem op_niM (hu : X.A.units + DEEP + 1 < cLine) : OpR X (compareOp .NotIn) (rD X.K gNi) := by
  intro pins s σ H x y v u Q I rx ry ⟨F, P, d1, d2, h, r1, r2, e, res⟩
  unfold gNi at e
  cases z : inO d1 d2 with
  | none => rw [z] at e; cases e
  | some b =>
    rw [z] at e; cases e
    unfold inO at z
    split at z
    · rename_i l el
      obtain ⟨a, vs, rfl, rs, ha⟩ := r2.seq el
      cases ry
      have hu' : X.A.in1.units + DEEP < cLine := by show X.A.units + 1 + DEEP < cLine; omega
      rcases ha with ⟨ha, _⟩ | ⟨ha, _⟩
      · obtain ⟨its, rv, p, _⟩ := I.tuple (.of ha)
        have vd := RVs.vd I l vs its rs rv
        refine SeqAt.notIn_tupleAt (items := its.toArray) (eqF s.heap DEEP d1) (show s.heap.IsTuple a its.toArray from p) (fun y m => eqF_at vd (r1.vd I rx) (anyO_at z) X.A.in1 hu' y (by simpa using m)) ?_
        have := anyO_any vd z
        simp only [List.any_toArray, this]
        exact ⟨.bl (!b), H, I, rfl, res.1 _ rv_bl⟩
      · obtain ⟨its, rv, p, _⟩ := I.list (.of ha)
        have vd := RVs.vd I l vs its rs rv
        refine SeqAt.notIn_listAt (items := its.toArray) (eqF s.heap DEEP d1) p.isList (fun y m => eqF_at vd (r1.vd I rx) (anyO_at z) X.A.in1 hu' y (by simpa using m)) ?_
        have := anyO_any vd z
        simp only [List.any_toArray, this]
        exact ⟨.bl (!b), H, I, rfl, res.1 _ rv_bl⟩
    · cases z
/-! ### is None, is True -/
def isN : D → Option Bool
  | .non => some true
  | .bl _ => some false
  | .int _ => some false
  | .str _ => some false
  | .tup _ => some false
  | .lst _ => some false
  | _ => none
theorem isN_of {K : PySem.W.Frag} {F P : Addr → Prop} {H : Hp} {d : D} {v : V} {b : Bool} (h : RC K F P H d v) (e : isN d = some b) : decide (v = .non) = b := by
  cases d with
  | non => cases e; rw [h.non]; rfl
  | bl _ => cases e; rw [h.bl]; rfl
  | int _ => cases e; rw [h.int]; rfl
  | str _ => cases e; rw [h.str]; rfl
  | tup _ => cases e; obtain ⟨a, _, e, _⟩ := h.tup; rw [e]; rfl
  | lst _ => cases e; obtain ⟨a, _, e, _⟩ := h.lst; rw [e]; rfl
  | _ => cases e
def gIs (d e : D) : Option Hd := match e with
  | .non => (isN d).map fun b => .val (.bl b)
  | .bl c => match d with
    | .bl b => some (.val (.bl (b == c)))
    | _ => none
  | _ => none
def gIsN (d e : D) : Option Hd := match e with
  | .non => (isN d).map fun b => .val (.bl (!b))
  | .bl c => match d with
    | .bl b => some (.val (.bl (!(b == c))))
    | _ => none
  | _ => none
theorem gIs_ns : NS2 gIs := by
  intro d e h q
  unfold gIs at q
  split at q
  · exact map_ns q
  · split at q <;> first | (cases q; rfl) | cases q
  · cases q
theorem gIsN_ns : NS2 gIsN := by
  intro d e h q
  unfold gIsN at q
  split at q
  · exact map_ns q
  · split at q <;> first | (cases q; rfl) | cases q
  · cases q
theorem op_isM : OpR X (compareOp .Is) (rD X.K gIs) := by
  intro pins s σ H x y v u Q I rx ry ⟨F, P, d1, d2, h, r1, r2, e, res⟩
  unfold gIs at e
  split at e
  · cases z : isN d1 with
    | none => rw [z] at e; cases e
    | some b =>
      rw [z] at e; cases e
      refine op_isN pins s σ H x y v u Q I rx ry ⟨r2.non, ?_⟩
      rw [isN_of r1 z]
      exact res.1 _ rv_bl
  · split at e
    · cases e
      rename_i c d b
      refine op_isBl pins s σ H x y v u Q I rx ry ⟨b, c, r1.bl, r2.bl, ?_⟩
      have : (b == c) = decide (b = c) := by cases b <;> cases c <;> rfl
      rw [← this]
      exact res.1 _ rv_bl
    · cases e
  · cases e
theorem op_isnM : OpR X (compareOp .IsNot) (rD X.K gIsN) := by
  intro pins s σ H x y v u Q I rx ry ⟨F, P, d1, d2, h, r1, r2, e, res⟩
  unfold gIsN at e
  split at e
  · cases z : isN d1 with
    | none => rw [z] at e; cases e
    | some b =>
      rw [z] at e; cases e
      refine op_notN pins s σ H x y v u Q I rx ry ⟨r2.non, ?_⟩
      rw [isN_of r1 z]
      exact res.1 _ rv_bl
  · split at e
    · cases e
      rename_i c d b
      refine op_notBl pins s σ H x y v u Q I rx ry ⟨b, c, r1.bl, r2.bl, ?_⟩
      have : (b == c) = decide (b = c) := by cases b <;> cases c <;> rfl
      rw [← this]
      exact res.1 _ rv_bl
    · cases e
  · cases e
def gNeg : D → Option Hd
  | .int i => some (.val (.int (-i)))
  | _ => none
theorem gNeg_ns : NS1 gNeg := by
  intro d h q
  unfold gNeg at q
  split at q <;> first | (cases q; rfl) | cases q
theorem un_negM : UnR X (unaryOp .USub) (rD1 X.K gNeg) := by
  intro pins s σ H x v Q I rx ⟨F, P, d1, h, r1, e, res⟩
  unfold gNeg at e
  split at e
  · cases e
    exact un_neg pins s σ H x v Q I rx ⟨_, r1.int, res.1 _ rv_int⟩
  · cases e
/-! ### a[i], a[i:j] -/
/-- 17: what a place holds -/
def gIx (d e : D) : Option Hd := match e with
  | .int i => match d with
    | .tup l => (atI l i).map .val
    | .lst l => (atI l i).map .val
    | .scr ns => (atI ns i).map fun n => .val (.int n)
    | _ => none
  | _ => none
theorem gIx_ns : NS2 gIx := by
  intro d e h q
  unfold gIx at q
  split at q
  · split at q
    · rename_i l
      cases z : atI l _ with
      | none => rw [z] at q; cases q
      | some d => rw [z] at q; cases q; rfl
    · rename_i l
      cases z : atI l _ with
      | none => rw [z] at q; cases q
      | some d => rw [z] at q; cases q; rfl
    · rename_i l
      cases z : atI l _ with
      | none => rw [z] at q; cases q
      | some d => rw [z] at q; cases q; rfl
    · cases q
  · cases q
theorem RVs.atI {K : PySem.W.Frag} {F P : Addr → Prop} {H : Hp} {l : List D} {vs : List V} {i : Int} {d : D} (r : RVs K F P H l vs) (e : atI l i = some d) : ∃ v, L2.atI vs i = some v ∧ RV K F P H d v := by
  unfold L2.atI at e ⊢
  rw [r.length]
  cases z : ixN l.length i with
  | none => rw [z] at e; cases e
  | some j =>
    rw [z] at e
    exact r.get e
theorem ix_M : IxR X (rD X.K gIx) := by
  intro value slice pins s σ H x y v u Q I rx ry ⟨F, P, d1, d2, h, r1, r2, e, res⟩ hs
  unfold gIx at e
  split at e
  · rename_i i
    split at e
    · rename_i l
      cases z : atI l i with
      | none => rw [z] at e; cases e
      | some d =>
        rw [z] at e; cases e
        obtain ⟨a, vs, rfl, ha, ra⟩ := r1.tup
        obtain ⟨w, ew, rw'⟩ := ra.atI z
        exact ix_tup value slice pins s σ H _ _ v u Q I rx ry ⟨a, vs, i, w, rfl, r2.int, .of ha, ew, res.1 _ rw'⟩ hs
    · rename_i l
      cases z : atI l i with
      | none => rw [z] at e; cases e
      | some d =>
        rw [z] at e; cases e
        obtain ⟨a, vs, rfl, ha, ra⟩ := r1.lst
        obtain ⟨w, ew, rw'⟩ := ra.atI z
        exact ix_list value slice pins s σ H _ _ v u Q I rx ry ⟨a, vs, i, w, rfl, r2.int, .of ha, ew, res.1 _ rw'⟩ hs
    · rename_i ns
      cases z : atI ns i with
      | none => rw [z] at e; cases e
      | some n =>
        rw [z] at e; cases e
        obtain ⟨a, rfl, ha⟩ := r1.scr
        have z' : L2.atI (ns.map V.int) i = some (.int n) := by
          unfold L2.atI at z ⊢
          rw [List.length_map]
          cases z2 : ixN ns.length i with
          | none => rw [z2] at z; cases z
          | some j =>
            rw [z2] at z
            have z' : ns[j]? = some n := z
            show (ns.map V.int)[j]? = some (.int n)
            rw [List.getElem?_map, z']; rfl
        exact ix_list value slice pins s σ H _ _ v u Q I rx ry ⟨a, _, i, _, rfl, r2.int, ha, z', res.1 _ rv_int⟩ hs
    · cases e
  · cases e
end
end Mi
set_option Elab.async false
set_option linter.all false
set_option maxRecDepth 100000
set_option maxHeartbeats 2000000
namespace Mi
open PySem PySem.Spec PyProof.Rows L2

/-! ### a[lo:hi] -/
abbrev MO := Ev → T (Option Int × Ev)
section
variable {K : PySem.W.Frag} {Z : Fr} {N N' N'' : Nat} {F P F' P' F'' P'' : Addr → Prop} {env env' env'' e0 : Ev} {σ : L2.St} {H H' H'' H0 : Hp} {F0 P0 : Addr → Prop}
def tO (K : PySem.W.Frag) (Z : Fr) (m : MO) : TO := fun σ H Q => ∃ N F P env, StR K Z N F P env σ H ∧ (m env).ok N fun N' r =>
  ∀ H' F' P', Ext σ env F P H r.2 F' P' H' → StR K Z N' F' P' r.2 σ H' → Q r.1 H'
def oNone : MO := fun env => .ret (none, env)
def oSome (m : M) : MO := fun env => (m env).bind fun r => match r.1 with
  | .val (.int i) => .ret (some i, r.2)
  | _ => .fail
theorem oNone_ok {Q : Option Int → Hp → Prop} (h : tO K Z oNone σ H Q) : tNoPart σ H Q := by
  obtain ⟨N, F, P, env, S, h⟩ := h
  exact h H F P Ext.refl S
theorem oSome_ok {m : M} {Q : Option Int → Hp → Prop} (h : tO K Z (oSome m) σ H Q) : tPart (tM K Z m) σ H Q := by
  obtain ⟨N, F, P, env, S, h⟩ := h
  refine ⟨N, F, P, env, S, T.ok_mono (fun N1 r1 q1 => ?_) (T.ok_bind h)⟩
  intro v H1 F1 P1 E1 S1 R1 Y1
  split at q1
  · rename_i i e
    rw [e] at R1
    have R1' : RV K F1 P1 H1 (.int i) v := R1
    simp only [RV] at R1'
    exact ⟨i, R1', q1 H1 F1 P1 E1 S1⟩
  · exact q1.elim
theorem PO.imp {X : Cx} {e : Option Expr} {t t' : TO} (h : PO X e t) (w : ∀ {σ H Q}, t' σ H Q → t σ H Q) : PO X e t' :=
  ⟨fun pins s σ H Q I q => h.run pins s σ H Q I (w q)⟩
def cutD (xs : List D) (lo hi : Option Int) : List D := (xs.drop (HT.sIx xs.length 0 lo)).take (HT.sIx xs.length xs.length hi - HT.sIx xs.length 0 lo)
def gSl (d : D) (lo hi : Option Int) : Option Hd := match d with
  | .tup l => some (.val (.tup (cutD l lo hi)))
  | .lst l => some (.tmp (.lst (cutD l lo hi)))
  | .scr ns => some (.tmp (.lst (cutD (ns.map .int) lo hi)))
  | _ => none
def eSl (m : M) (lo hi : MO) : M := fun env => (m env).bind fun r1 => (lo r1.2).bind fun r2 => (hi r2.2).bind fun r3 => match rs r3.2 r1.1 with
  | some d => match gSl d r2.1 r3.1 with
    | some h => .ret (h, r3.2)
    | none => .fail
  | none => .fail
def rSlM (K : PySem.W.Frag) : V → Option Int → Option Int → Hp → VK → Prop := fun x lo hi H Q => ∃ F P d h, RC K F P H d x ∧ gSl d lo hi = some h ∧ ResK K F P H h Q
theorem RVs.cut {ds : List D} {vs : List V} {lo hi : Option Int} (r : RVs K F P H ds vs) : RVs K F P H (cutD ds lo hi) (cutV vs lo hi) := by
  unfold cutD cutV
  rw [r.length]
  exact (r.drop _).take _
theorem RVs.ints : ∀ {ns : List Int}, RVs K F P H (ns.map .int) (ns.map V.int)
  | [] => .nil
  | n :: ns => .cons (by simp only [RV]) RVs.ints
theorem eSl_ok {m : M} {lo hi : MO} {Q : VK} (h : tM K Z (eSl m lo hi) σ H Q) : tSl (rSlM K) (tM K Z m) (tO K Z lo) (tO K Z hi) σ H Q := by
  obtain ⟨N, F, P, env, S, h⟩ := h
  refine ⟨N, F, P, env, S, T.ok_mono (fun N1 r1 q1 => ?_) (T.ok_bind h)⟩
  intro v1 H1 F1 P1 E1 S1 R1 Y1
  refine ⟨N1, F1, P1, r1.2, S1, T.ok_mono (fun N2 r2 q2 => ?_) (T.ok_bind q1)⟩
  intro H2 F2 P2 E2 S2
  refine ⟨N2, F2, P2, r2.2, S2, T.ok_mono (fun N3 r3 q3 => ?_) (T.ok_bind q2)⟩
  intro H3 F3 P3 E3 S3
  split at q3
  · rename_i d e
    split at q3
    · rename_i h' e'
      have ns : ∀ i, h' ≠ .slot i := by
        intro i z
        subst z
        unfold gSl at e'
        split at e' <;> cases e'
      exact ⟨F3, P3, d, h', (R1.ext S1 (E2.trans E3)).rc S3 e, e', Post.res S3 ns (Post.from (E1.trans (E2.trans E3)) q3)⟩
    · exact q3.elim
  · exact q3.elim
theorem sl_M {X : Cx} : SlR X (rSlM X.K) := by
  intro pins s σ H x v vl vu lo hi sl Q I rx hs pl pu ⟨F, P, d, h, r1, e, res⟩
  unfold gSl at e
  split at e
  · rename_i l
    cases e
    obtain ⟨a, vs, rfl, ha, ra⟩ := r1.tup
    refine sl_tupA pins s σ H _ v vl vu lo hi sl Q I rx hs pl pu ⟨a, vs, rfl, .of ha, fun w => ?_, fun _ p hp => ?_⟩
    · have : cutD l lo hi = l := by
        unfold cutD
        rw [← ra.length, w.1, w.2]
        simp [ra.length]
      rw [this] at res
      exact res.1 _ (rv_tup ha ra)
    · exact res.2 p _ _ rfl ra.cut hp
  · rename_i l
    cases e
    obtain ⟨a, vs, rfl, ha, ra⟩ := r1.lst
    exact sl_list pins s σ H _ v vl vu lo hi sl Q I rx hs pl pu ⟨a, vs, rfl, .of ha, fun p hp => res p _ _ rfl ra.cut hp⟩
  · rename_i ns
    cases e
    obtain ⟨a, rfl, ha⟩ := r1.scr
    exact sl_list pins s σ H _ v vl vu lo hi sl Q I rx hs pl pu ⟨a, _, rfl, ha, fun p hp => res p _ _ rfl (RVs.cut RVs.ints) hp⟩
  · cases e

/-! ### chains -/
def eChain (g g' : D → D → Option Hd) (ma mb mc : M) : M := fun env => (ma env).bind fun r1 => (mb r1.2).bind fun r2 => match rs r2.2 r1.1, rs r2.2 r2.1 with
  | some d1, some d2 => match g d1 d2 with
    | some (.val (.bl true)) => (mc r2.2).bind fun r3 => match rs r3.2 r2.1, rs r3.2 r3.1 with
      | some d2, some d3 => match g' d2 d3 with
        | some h => .ret (h, r3.2)
        | none => .fail
      | _, _ => .fail
    | some (.val (.bl false)) => .ret (.val (.bl false), r2.2)
    | _ => .fail
  | _, _ => .fail
theorem Post.blres {Q : VK} (S : StR K Z N F P env σ H) {b : Bool} (q : Q (.bl b) H) : ResK K F P H (.val (.bl b)) Q :=
  ⟨fun v r => by simp only [RV] at r; subst r; exact q, fun p vs ds e => by cases e⟩
theorem eChain_ok {r r' : R2} {g g' : D → D → Option Hd} {ma mb mc : M} {Q : VK} (hr : Op2 K r g) (hr' : Op2 K r' g') (h : tM K Z (eChain g g' ma mb mc) σ H Q) : tChain r r' (tM K Z ma) (tM K Z mb) (tM K Z mc) σ H Q := by
  obtain ⟨N, F, P, env, S, h⟩ := h
  refine ⟨N, F, P, env, S, T.ok_mono (fun N1 r1 q1 => ?_) (T.ok_bind h)⟩
  intro v1 H1 F1 P1 E1 S1 R1 Y1
  refine ⟨N1, F1, P1, r1.2, S1, T.ok_mono (fun N2 r2 q2 => ?_) (T.ok_bind q1)⟩
  intro v2 H2 F2 P2 E2 S2 R2 Y2
  split at q2
  · rename_i d1 d2 e1 e2
    split at q2
    · rename_i e3
      refine (hr ((R1.ext S1 E2).rc S2 e1) (R2.rc S2 e2) e3).2 (Post.blres S2 ⟨true, rfl, iteT ?_⟩)
      refine ⟨N2, F2, P2, r2.2, S2, T.ok_mono (fun N3 r3 q3 => ?_) (T.ok_bind q2)⟩
      intro v3 H3 F3 P3 E3 S3 R3 Y3
      split at q3
      · rename_i d2' d3 e4 e5
        split at q3
        · rename_i h' e6
          obtain ⟨ns, go⟩ := hr' (Q := Q) ((R2.ext S2 E3).rc S3 e4) (R3.rc S3 e5) e6
          exact go (Post.res S3 ns (Post.from (E1.trans (E2.trans E3)) q3))
        · exact q3.elim
      · exact q3.elim
    · rename_i e3
      refine (hr ((R1.ext S1 E2).rc S2 e1) (R2.rc S2 e2) e3).2 (Post.blres S2 ⟨false, rfl, iteF ?_⟩)
      exact q2 (.bl false) H2 F2 P2 (E1.trans E2) S2 (by show RV K F2 P2 H2 (.bl false) _; simp only [RV]) trivial
    · exact q2.elim
  · exact q2.elim

/-! ### isinstance -/
def tyD : D → Option String
  | .non => some "NoneType"
  | .bl _ => some "bool"
  | .int _ => some "int"
  | .str _ => some "str"
  | .tup _ => some "tuple"
  | .lst _ => some "list"
  | _ => none
theorem RC.tyx {d : D} {v : V} {t : String} (r : RC K F P H d v) (e : tyD d = some t) : TyX K H v (.type t) := by
  cases d with
  | non => cases e; rw [r.non]; exact .base .non
  | bl b => cases e; rw [r.bl]; exact .base (.bl b)
  | int i => cases e; rw [r.int]; exact .base (.int i)
  | str x => cases e; rw [r.str]; exact .base (.str _)
  | tup l => cases e; obtain ⟨a, vs, rfl, ha, _⟩ := r.tup; exact .base (.tup ha)
  | lst l => cases e; obtain ⟨a, vs, rfl, ha, _⟩ := r.lst; exact .base (.lst ha)
  | _ => cases e
/-- is the first a kind of the second -/
def isK (t T : String) : Option Bool :=
  if t = "NoneType" ∨ t = "bool" ∨ t = "int" ∨ t = "str" ∨ t = "tuple" ∨ t = "list" then
    if T = "bool" ∨ T = "int" ∨ T = "str" ∨ T = "tuple" ∨ T = "list" then some (t == T || (t == "bool" && T == "int")) else none
  else none
theorem isK_kit {t T : String} {b : Bool} (e : isK t T = some b) : kitB t T = some b := by
  unfold isK at e
  split at e
  · rename_i h1
    split at e
    · rename_i h2
      rcases h1 with rfl | rfl | rfl | rfl | rfl | rfl <;> rcases h2 with rfl | rfl | rfl | rfl | rfl <;> cases e <;> decide +kernel
    · cases e
  · cases e
def gIsi (T : String) (d : D) : Option Bool := match tyD d with
  | some t => isK t T
  | none => none
def eIsi (T : String) (m : M) : M := fun env => (m env).bind fun r => match rs r.2 r.1 with
  | some d => match gIsi T d with
    | some b => .ret (.val (.bl b), r.2)
    | none => .fail
  | none => .fail
theorem eIsi_ok {T' : String} {m : M} {Q : VK} (h : tM K Z (eIsi T' m) σ H Q) : tCB (rIsi K) (tCons (tM K Z m) (tCons (tC (.ty T')) tNil)) σ H Q := by
  obtain ⟨N, F, P, env, S, h⟩ := h
  refine ⟨N, F, P, env, S, T.ok_mono (fun N1 r1 q1 => ?_) (T.ok_bind h)⟩
  intro v1 H1 F1 P1 E1 S1 R1 Y1
  split at q1
  · rename_i d e
    split at q1
    · rename_i b e2
      unfold gIsi at e2
      split at e2
      · rename_i t e3
        exact ⟨v1, .ty T', .type t, .type T', b, rfl, .ty T', (R1.rc S1 e).tyx e3, kit_ty (isK_kit e2), q1 (.bl b) H1 F1 P1 E1 S1 (by show RV K F1 P1 H1 (.bl b) _; simp only [RV]) trivial⟩
      · cases e2
    · exact q1.elim
  · exact q1.elim
end
end Mi
set_option Elab.async false
set_option linter.all false
set_option maxRecDepth 100000
set_option maxHeartbeats 2000000
namespace Mi
open PySem PySem.Spec PyProof.Rows L2

section
variable {K : PySem.W.Frag} {F P : Addr → Prop} {H : Hp}
theorem RCs.one {d : D} {vs : List V} (h : RCs K F P H [d] vs) : ∃ v, vs = [v] ∧ RC K F P H d v := by
  obtain ⟨v, vr, e, r, e2⟩ := h
  have e2' : vr = [] := e2
  subst e2'
  exact ⟨v, e, r⟩
theorem RCs.two {d e : D} {vs : List V} (h : RCs K F P H [d, e] vs) : ∃ v u, vs = [v, u] ∧ RC K F P H d v ∧ RC K F P H e u := by
  obtain ⟨v, vr, e, r, e2⟩ := h
  obtain ⟨u, rfl, r2⟩ := RCs.one e2
  exact ⟨v, u, e, r, r2⟩
theorem RCs.three {d e f : D} {vs : List V} (h : RCs K F P H [d, e, f] vs) : ∃ v u w, vs = [v, u, w] ∧ RC K F P H d v ∧ RC K F P H e u ∧ RC K F P H f w := by
  obtain ⟨v, vr, e, r, e2⟩ := h
  obtain ⟨u, w, rfl, r2, r3⟩ := RCs.two e2
  exact ⟨v, u, w, e, r, r2, r3⟩
end
/-- 1, 2, 3 places -/
def g1 (g : D → Option Hd) : List D → Option Hd
  | [d] => g d
  | _ => none
def gI2 (g : Int → Int → Int) : List D → Option Hd
  | [.int i, .int j] => some (.val (.int (g i j)))
  | _ => none
def gI3 (g : Int → Int → Int → Int) : List D → Option Hd
  | [.int i, .int j, .int k] => some (.val (.int (g i j k)))
  | _ => none
theorem g1_ns {g : D → Option Hd} (h : NS1 g) : NSN (g1 g) := by
  intro d x q
  unfold g1 at q
  split at q
  · exact h _ _ q
  · cases q
theorem gI2_ns {g : Int → Int → Int} : NSN (gI2 g) := by
  intro d x q
  unfold gI2 at q
  split at q <;> cases q; rfl
theorem gI3_ns {g : Int → Int → Int → Int} : NSN (gI3 g) := by
  intro d x q
  unfold gI3 at q
  split at q <;> cases q; rfl
def lenD : D → Option Hd
  | .tup l => some (.val (.int l.length))
  | .lst l => some (.val (.int l.length))
  | .scr l => some (.val (.int l.length))
  | _ => none
def intD : D → Option Hd
  | .int i => some (.val (.int i))
  | .bl b => some (.val (.int (if b then 1 else 0)))
  | _ => none
def absD : D → Option Hd
  | .int i => some (.val (.int (if i < 0 then -i else i)))
  | _ => none
def listD : D → Option Hd
  | .tup l => some (.tmp (.lst l))
  | .lst l => some (.tmp (.lst l))
  | .scr l => some (.tmp (.lst (l.map .int)))
  | _ => none
def tupleD : D → Option Hd
  | .tup l => some (.val (.tup l))
  | .lst l => some (.val (.tup l))
  | .scr l => some (.val (.tup (l.map .int)))
  | _ => none
def intsO : List D → Option (List Int)
  | [] => some []
  | .int i :: ds => (intsO ds).map (i :: ·)
  | _ => none
def blsO : List D → Option (List Bool)
  | [] => some []
  | .bl i :: ds => (blsO ds).map (i :: ·)
  | _ => none
def sumD (d : D) : Option Hd := match seqD d with
  | some l => (intsO l).map fun ns => .val (.int ns.sum)
  | none => none
def allD (d : D) : Option Hd := match seqD d with
  | some l => (blsO l).map fun ns => .val (.bl (ns.all id))
  | none => none
def anyD (d : D) : Option Hd := match seqD d with
  | some l => (blsO l).map fun ns => .val (.bl (ns.any id))
  | none => none
theorem lenD_ns : NS1 lenD := by
  intro d h q; unfold lenD at q; split at q <;> cases q <;> rfl
theorem intD_ns : NS1 intD := by
  intro d h q; unfold intD at q; split at q <;> cases q <;> rfl
theorem absD_ns : NS1 absD := by
  intro d h q; unfold absD at q; split at q <;> cases q <;> rfl
theorem listD_ns : NS1 listD := by
  intro d h q; unfold listD at q; split at q <;> cases q <;> rfl
theorem tupleD_ns : NS1 tupleD := by
  intro d h q; unfold tupleD at q; split at q <;> cases q <;> rfl
theorem mapv_ns {α : Type} {o : Option α} {f : α → D} {h : Hd} (e : (match o with | some a => some (Hd.val (f a)) | none => none) = some h) : noSl h = true := by
  cases o with
  | none => cases e
  | some a => cases e; rfl
theorem sumD_ns : NS1 sumD := by
  intro d h q; unfold sumD at q; split at q
  · exact map_ns q
  · cases q
theorem allD_ns : NS1 allD := by
  intro d h q; unfold allD at q; split at q
  · exact map_ns q
  · cases q
theorem anyD_ns : NS1 anyD := by
  intro d h q; unfold anyD at q; split at q
  · exact map_ns q
  · cases q
section
variable {X : Cx}
theorem cr_g1 {f : Value} {g : D → Option Hd} (h : ∀ (pins : List (Addr × Obj)) (s : Shared) (σ : L2.St) (H : Hp) (x : V) (us : List Value) (Q : VK) (F P : Addr → Prop) (d : D) (hd : Hd), Inv X pins σ H s → Vals [x] us → RC X.K F P H d x → g d = some hd → ResK X.K F P H hd Q →
    wpAny (model X.prog X.w) X.A (call f us) (EP X pins σ Q) X.xe s) : CallR X f (rDN X.K (g1 g)) := by
  intro pins s σ H xs us Q I r ⟨F, P, ds, hd, rs, e, res⟩
  unfold g1 at e
  split at e
  · obtain ⟨x, rfl, r1⟩ := rs.one
    exact h pins s σ H x us Q F P _ hd I r r1 e res
  · cases e
theorem call_lenM : CallR X (.builtin "len") (rDN X.K (g1 lenD)) := cr_g1 fun pins s σ H x us Q F P d hd I r r1 e res => by
  unfold lenD at e
  split at e
  · cases e
    obtain ⟨a, vs, rfl, ha, ra⟩ := r1.tup
    refine call_len_seq pins s σ H _ us Q I r ⟨a, vs, rfl, .inr (.of ha), ?_⟩
    rw [ra.length]
    exact res.1 _ rv_int
  · cases e
    obtain ⟨a, vs, rfl, ha, ra⟩ := r1.lst
    refine call_len_seq pins s σ H _ us Q I r ⟨a, vs, rfl, .inl (.of ha), ?_⟩
    rw [ra.length]
    exact res.1 _ rv_int
  · rename_i l
    cases e
    obtain ⟨a, rfl, ha⟩ := r1.scr
    refine call_len_seq pins s σ H _ us Q I r ⟨a, _, rfl, .inl ha, ?_⟩
    rw [List.length_map]
    exact res.1 _ rv_int
  · cases e
theorem call_intM : CallR X (.type "int") (rDN X.K (g1 intD)) := cr_g1 fun pins s σ H x us Q F P d hd I r r1 e res => by
  unfold intD at e
  split at e
  · cases e
    exact call_int1 pins s σ H _ us Q I r (.inl ⟨_, by rw [r1.int], res.1 _ rv_int⟩)
  · cases e
    exact call_int1 pins s σ H _ us Q I r (.inr ⟨_, by rw [r1.bl], res.1 _ rv_int⟩)
  · cases e
theorem call_absM : CallR X (.builtin "abs") (rDN X.K (g1 absD)) := cr_g1 fun pins s σ H x us Q F P d hd I r r1 e res => by
  unfold absD at e
  split at e
  · cases e
    exact call_abs pins s σ H _ us Q I r ⟨_, by rw [r1.int], res.1 _ rv_int⟩
  · cases e
theorem call_listM : CallR X (.type "list") (rDN X.K (g1 listD)) := cr_g1 fun pins s σ H x us Q F P d hd I r r1 e res => by
  unfold listD at e
  split at e
  · cases e
    obtain ⟨a, vs, rfl, ha, ra⟩ := r1.tup
    exact call_list_of pins s σ H _ us Q I r ⟨a, vs, rfl, .inr (.of ha), fun p hp => res p _ _ rfl ra hp⟩
  · cases e
    obtain ⟨a, vs, rfl, ha, ra⟩ := r1.lst
    exact call_list_of pins s σ H _ us Q I r ⟨a, vs, rfl, .inl (.of ha), fun p hp => res p _ _ rfl ra hp⟩
  · cases e
    obtain ⟨a, rfl, ha⟩ := r1.scr
    exact call_list_of pins s σ H _ us Q I r ⟨a, _, rfl, .inl ha, fun p hp => res p _ _ rfl RVs.ints hp⟩
  · cases e
theorem call_tupleM : CallR X (.type "tuple") (rDN X.K (g1 tupleD)) := cr_g1 fun pins s σ H x us Q F P d hd I r r1 e res => by
  unfold tupleD at e
  split at e
  · cases e
    obtain ⟨a, vs, rfl, ha, ra⟩ := r1.tup
    exact call_tuple_of pins s σ H _ us Q I r ⟨a, vs, rfl, .inr ⟨.of ha, res.1 _ (rv_tup ha ra)⟩⟩
  · cases e
    obtain ⟨a, vs, rfl, ha, ra⟩ := r1.lst
    exact call_tuple_of pins s σ H _ us Q I r ⟨a, vs, rfl, .inl ⟨.of ha, fun p hp => res.2 p _ _ rfl ra hp⟩⟩
  · cases e
    obtain ⟨a, rfl, ha⟩ := r1.scr
    exact call_tuple_of pins s σ H _ us Q I r ⟨a, _, rfl, .inl ⟨ha, fun p hp => res.2 p _ _ rfl RVs.ints hp⟩⟩
  · cases e
theorem cr_I2 {f : Value} {g : Int → Int → Int} (h : CallR X f fun xs H Q => ∃ i j, xs = [.int i, .int j] ∧ Q (.int (g i j)) H) : CallR X f (rDN X.K (gI2 g)) := by
  intro pins s σ H xs us Q I r ⟨F, P, ds, hd, rs, e, res⟩
  unfold gI2 at e
  split at e
  · cases e
    obtain ⟨x, y, rfl, r1, r2⟩ := rs.two
    exact h pins s σ H _ us Q I r ⟨_, _, by rw [r1.int, r2.int], res.1 _ rv_int⟩
  · cases e
theorem call_max2M (hc : X.calm = true) : CallR X (.builtin "max") (rDN X.K (gI2 max)) := cr_I2 fun pins s σ H xs us Q I r ⟨i, j, e, q⟩ =>
  call_max2 hc pins s σ H xs us Q I r ⟨i, j, e, by rw [show (if j > i then j else i) = max i j by split <;> omega]; exact q⟩
theorem call_min2M (hc : X.calm = true) : CallR X (.builtin "min") (rDN X.K (gI2 min)) := cr_I2 fun pins s σ H xs us Q I r ⟨i, j, e, q⟩ =>
  call_min2 hc pins s σ H xs us Q I r ⟨i, j, e, by rw [show (if j < i then j else i) = min i j by split <;> omega]; exact q⟩
theorem call_max3M (hc : X.calm = true) : CallR X (.builtin "max") (rDN X.K (gI3 fun i j k => max (max i j) k)) := by
  intro pins s σ H xs us Q I r ⟨F, P, ds, hd, rs, e, res⟩
  unfold gI3 at e
  split at e
  · cases e
    obtain ⟨x, y, z, rfl, r1, r2, r3⟩ := rs.three
    rw [r1.int, r2.int, r3.int] at r
    cases r with
    | cons q1 r =>
      cases r with
      | cons q2 r =>
        cases r with
        | cons q3 r =>
          cases r
          obtain ⟨t, rfl⟩ := q1
          obtain ⟨t', rfl⟩ := q2
          obtain ⟨t'', rfl⟩ := q3
          refine max_three_ints (I.ok.hd hc) fun h' tk k => ⟨_, H, I.kept k, ?_, res.1 _ rv_int⟩
          dsimp only
          split <;> split <;> exact ⟨_, by congr 1; omega⟩
  · cases e
theorem call_min3M (hc : X.calm = true) : CallR X (.builtin "min") (rDN X.K (gI3 fun i j k => min (min i j) k)) := by
  intro pins s σ H xs us Q I r ⟨F, P, ds, hd, rs, e, res⟩
  unfold gI3 at e
  split at e
  · cases e
    obtain ⟨x, y, z, rfl, r1, r2, r3⟩ := rs.three
    rw [r1.int, r2.int, r3.int] at r
    cases r with
    | cons q1 r =>
      cases r with
      | cons q2 r =>
        cases r with
        | cons q3 r =>
          cases r
          obtain ⟨t, rfl⟩ := q1
          obtain ⟨t', rfl⟩ := q2
          obtain ⟨t'', rfl⟩ := q3
          refine min_three_ints (I.ok.hd hc) fun h' tk k => ⟨_, H, I.kept k, ?_, res.1 _ rv_int⟩
          dsimp only
          split <;> split <;> exact ⟨_, by congr 1; omega⟩
  · cases e
/-! ### sums, all, any -/
theorem intsO_vd {h : Heap} : ∀ {ds : List D} {ns : List Int} {its : List Value}, intsO ds = some ns → Vds h ds its → ∀ (i : Nat) (v : Value), its[i]? = some v → ∃ t, v = .int (ns.getD i 0) t
  | [], ns, its, e, q, i, v, z => by
    simp only [Vds] at q; subst q; simp at z
  | .int n :: ds, ns, its, e, q, i, v, z => by
    simp only [Vds] at q
    obtain ⟨u, ur, rfl, qu, qr⟩ := q
    unfold intsO at e
    cases e2 : intsO ds with
    | none => rw [e2] at e; cases e
    | some ms =>
      rw [e2] at e; cases e
      cases i with
      | zero =>
        simp at z; subst z
        simp only [Vd] at qu
        obtain ⟨t, e⟩ := qu
        exact ⟨t, by simpa using e⟩
      | succ i =>
        have := intsO_vd e2 qr i v (by simpa using z)
        simpa using this
  | .non :: _, ns, its, e, q, i, v, z => by cases e
  | .bl _ :: _, ns, its, e, q, i, v, z => by cases e
  | .str _ :: _, ns, its, e, q, i, v, z => by cases e
  | .tup _ :: _, ns, its, e, q, i, v, z => by cases e
  | .lst _ :: _, ns, its, e, q, i, v, z => by cases e
  | .dic _ :: _, ns, its, e, q, i, v, z => by cases e
  | .pot :: _, ns, its, e, q, i, v, z => by cases e
  | .scr _ :: _, ns, its, e, q, i, v, z => by cases e
  | .rep _ :: _, ns, its, e, q, i, v, z => by cases e
theorem blsO_vd {h : Heap} : ∀ {ds : List D} {ns : List Bool} {its : List Value}, blsO ds = some ns → Vds h ds its → ∀ (i : Nat) (v : Value), its[i]? = some v → v = .bool (ns.getD i false)
  | [], ns, its, e, q, i, v, z => by
    simp only [Vds] at q; subst q; simp at z
  | .bl n :: ds, ns, its, e, q, i, v, z => by
    simp only [Vds] at q
    obtain ⟨u, ur, rfl, qu, qr⟩ := q
    unfold blsO at e
    cases e2 : blsO ds with
    | none => rw [e2] at e; cases e
    | some ms =>
      rw [e2] at e; cases e
      cases i with
      | zero =>
        simp at z; subst z
        simp only [Vd] at qu
        simpa using qu
      | succ i =>
        have := blsO_vd e2 qr i v (by simpa using z)
        simpa using this
  | .non :: _, ns, its, e, q, i, v, z => by cases e
  | .int _ :: _, ns, its, e, q, i, v, z => by cases e
  | .str _ :: _, ns, its, e, q, i, v, z => by cases e
  | .tup _ :: _, ns, its, e, q, i, v, z => by cases e
  | .lst _ :: _, ns, its, e, q, i, v, z => by cases e
  | .dic _ :: _, ns, its, e, q, i, v, z => by cases e
  | .pot :: _, ns, its, e, q, i, v, z => by cases e
  | .scr _ :: _, ns, its, e, q, i, v, z => by cases e
  | .rep _ :: _, ns, its, e, q, i, v, z => by cases e
theorem intsO_len : ∀ {ds : List D} {ns : List Int}, intsO ds = some ns → ds = ns.map .int
  | [], ns, e => by cases e; rfl
  | .int n :: ds, ns, e => by
    unfold intsO at e
    cases e2 : intsO ds with
    | none => rw [e2] at e; cases e
    | some ms => rw [e2] at e; cases e; rw [intsO_len e2]; rfl
  | .non :: _, ns, e => by cases e
  | .bl _ :: _, ns, e => by cases e
  | .str _ :: _, ns, e => by cases e
  | .tup _ :: _, ns, e => by cases e
  | .lst _ :: _, ns, e => by cases e
  | .dic _ :: _, ns, e => by cases e
  | .pot :: _, ns, e => by cases e
  | .scr _ :: _, ns, e => by cases e
  | .rep _ :: _, ns, e => by cases e
theorem blsO_len : ∀ {ds : List D} {ns : List Bool}, blsO ds = some ns → ds = ns.map .bl
  | [], ns, e => by cases e; rfl
  | .bl n :: ds, ns, e => by
    unfold blsO at e
    cases e2 : blsO ds with
    | none => rw [e2] at e; cases e
    | some ms => rw [e2] at e; cases e; rw [blsO_len e2]; rfl
  | .non :: _, ns, e => by cases e
  | .int _ :: _, ns, e => by cases e
  | .str _ :: _, ns, e => by cases e
  | .tup _ :: _, ns, e => by cases e
  | .lst _ :: _, ns, e => by cases e
  | .dic _ :: _, ns, e => by cases e
  | .pot :: _, ns, e => by cases e
  | .scr _ :: _, ns, e => by cases e
  | .rep _ :: _, ns, e => by cases e
@[simp] theorem intsO_map : ∀ ns : List Int, intsO (ns.map .int) = some ns
  | [] => rfl
  | n :: ns => by show (intsO (ns.map .int)).map (n :: ·) = _; rw [intsO_map ns]; rfl
@[simp] theorem blsO_map : ∀ ns : List Bool, blsO (ns.map .bl) = some ns
  | [] => rfl
  | n :: ns => by show (blsO (ns.map .bl)).map (n :: ·) = _; rw [blsO_map ns]; rfl
theorem preSum_get (ns : List Int) : ∀ k, preSum (fun i => ns.getD i 0) k = (ns.take k).sum
  | 0 => by simp [preSum]
  | k + 1 => by
    show preSum (fun i => ns.getD i 0) k + ns.getD k 0 = _
    rw [preSum_get ns k, List.take_add_one, List.sum_append]
    congr 1
    cases h : ns[k]? with
    | none => simp [List.getD_eq_getElem?_getD, h]
    | some n => simp [List.getD_eq_getElem?_getD, h]
/-- a list's or a tuple's own iterator -/
theorem iter_seqM {A : Around} {E : Value → Shared → Prop} {s : Shared} {prog : Program} {w : World} {a : Addr} {its : List Value} {Q : Value → Shared → Prop} (hh : A.handled = none) (hl : s.heap.IsList a its.toArray ∨ IsTup s.heap a its.toArray)
    (h : ∀ (s₂ : Shared) (o : Obj) (St : Nat → Heap → Prop), s₂ = { s with heap := s.heap.push o } → Walks prog w A s.heap.objs.size [s.heap.objs.size, a] [s.heap.objs.size] its.length (fun i v => its[i]? = some v) St →
      St 0 s₂.heap → (∀ b ∈ [s.heap.objs.size, a], b < s₂.heap.objs.size) → (∀ b o, s.heap.get? b = some o → b ∉ [s.heap.objs.size]) → (∀ b o, s.heap.get? b = some o → s₂.heap.get? b = some o) → Q (.ref s.heap.objs.size) s₂) :
    wpAny (model prog w) A (pyIter (.ref a)) Q E s := by
  have hlt : a < s.heap.objs.size := by rcases hl with hl | hl <;> (obtain ⟨_, e, _⟩ := hl; exact Heap.lt_size e)
  have c1 : ∀ o : Obj, ∀ b ∈ [s.heap.objs.size, a], b < (s.heap.push o).objs.size := fun o b hb => by
    rw [Heap.size_push]
    rcases List.mem_cons.mp hb with rfl | hb
    · exact Nat.lt_succ_self _
    · rcases List.mem_cons.mp hb with rfl | hb
      · exact Nat.lt_succ_of_lt hlt
      · cases hb
  have c2 : ∀ b o, s.heap.get? b = some o → b ∉ [s.heap.objs.size] := fun b o e hb => absurd (Heap.lt_size e) ((List.mem_singleton.mp hb) ▸ Nat.lt_irrefl _)
  rcases hl with hl | hl
  · have W := (Walks.list (prog := prog) (w := w) (A := A) hh s.heap.objs.size a (Nat.ne_of_lt hlt) its.toArray)
    simp only [List.size_toArray, List.getElem?_toArray] at W
    exact wpAny_pyIter_list hl (h _ _ _ rfl W ⟨⟨_, Heap.get?_push_size _ rfl, rfl, rfl⟩, hl.push _⟩ (c1 _) c2 fun b o e => Heap.get?_push_of_some _ e)
  · have hl' : s.heap.IsTuple a its.toArray := hl
    have W := (Walks.tuple (prog := prog) (w := w) (A := A) hh s.heap.objs.size a (Nat.ne_of_lt hlt) its.toArray)
    simp only [List.size_toArray, List.getElem?_toArray] at W
    exact wpAny_pyIter_tuple hl' (h _ _ _ rfl W ⟨⟨_, Heap.get?_push_size _ rfl, rfl, rfl⟩, hl'.push _⟩ (c1 _) c2 fun b o e => Heap.get?_push_of_some _ e)
theorem RC.its {pins : List (Addr × Obj)} {σ : L2.St} {H : Hp} {s : Shared} {F P : Addr → Prop} {d : D} {l : List D} {x : V} {us : List Value} (I : Inv X pins σ H s) (r : RC X.K F P H d x) (e : seqD d = some l) (rv : Vals [x] us) :
    ∃ a its, us = [.ref a] ∧ (s.heap.IsList a its.toArray ∨ IsTup s.heap a its.toArray) ∧ Vds s.heap l its := by
  obtain ⟨a, vs, rfl, rs, ha⟩ := r.seq e
  rw [Vals.ref1 rv]
  rcases ha with ⟨ha, _⟩ | ⟨ha, _⟩
  · obtain ⟨its, rv, p, _⟩ := I.tuple (.of ha)
    exact ⟨a, its, rfl, .inr p, RVs.vd I l vs its rs rv⟩
  · obtain ⟨its, rv, p, _⟩ := I.list (.of ha)
    exact ⟨a, its, rfl, .inl p.isList, RVs.vd I l vs its rs rv⟩
theorem old_kept' {s : Shared} {o : Obj} {h' : Heap} (hk : ∀ b u, b ∉ [s.heap.objs.size] → (s.heap.push o).get? b = some u → h'.get? b = some u) : ∀ b u, s.heap.get? b = some u → h'.get? b = some u :=
  fun b u e => hk b u (fun hb => absurd (Heap.lt_size e) ((List.mem_singleton.mp hb) ▸ Nat.lt_irrefl _)) (Heap.get?_push_of_some _ e)
theorem call_sumM (hc : X.calm = true) : CallR X (.builtin "sum") (rDN X.K (g1 sumD)) := cr_g1 fun pins s σ H x us Q F P d hd I r r1 e res => by
  unfold sumD at e
  split at e
  · rename_i l el
    cases e2 : intsO l with
    | none => rw [e2] at e; cases e
    | some ns =>
      rw [e2] at e; cases e
      obtain ⟨a, its, rfl, hl, vd⟩ := r1.its I el r
      refine call_sum_walkG (iter_seqM (A := X.A.in1) (I.ok.hd hc) hl fun s₂ o St e W st hfp hw hk => ?_)
      subst e
      refine ⟨_, _, _, _, _, _, fun i => ns.getD i 0, rfl, W, st, hfp, fun i v z => intsO_vd e2 vd i v z, fun h' tk t' hk' => ?_⟩
      refine ⟨.int ns.sum, H, I.kept (old_kept' hk'), ⟨t', ?_⟩, res.1 _ rv_int⟩
      rw [preSum_get, List.take_of_length_le (by rw [vd.length, intsO_len e2, List.length_map]; exact Nat.le_refl _)]
  · cases e
theorem truthIn_bls {A : Around} {prog : Program} {w : World} {h : Heap} {ds : List D} {ns : List Bool} {its : List Value} (e : blsO ds = some ns) (q : Vds h ds its) : TruthIn prog w A h (fun i v => its[i]? = some v) (fun i => ns.getD i false) := fun i v s' Q E hk hi hq => by
  have := blsO_vd e q i v hi
  subst this
  exact wpAny_truthy_bool (hq s'.toks (Nat.le_refl _))
theorem moved_kept {s s' : Shared} {o : Obj} (m : Moved [s.heap.objs.size] (fun a b => b = a) { s with heap := s.heap.push o } s') : ∃ h' tk, s' = { s with heap := h', toks := tk } ∧ ∀ b u, s.heap.get? b = some u → h'.get? b = some u :=
  PySem.W.moved_old (o := o) rfl rfl m
theorem call_allM (hc : X.calm = true) : CallR X (.builtin "all") (rDN X.K (g1 allD)) := cr_g1 fun pins s σ H x us Q F P d hd I r r1 e res => by
  unfold allD at e
  split at e
  · rename_i l el
    cases e2 : blsO l with
    | none => rw [e2] at e; cases e
    | some ns =>
      rw [e2] at e; cases e
      obtain ⟨a, its, rfl, hl, vd⟩ := r1.its I el r
      refine call_all_walkH (iter_seqM (A := X.A.in1) (I.ok.hd hc) hl fun s₂ o St e W st hfp hw hk => ?_)
      subst e
      refine ⟨_, _, _, _, _, _, _, s.heap, _, rfl, W.toS, st, hw, hk, truthIn_bls e2 vd, fun s' m => ?_⟩
      obtain ⟨h', tk, rfl, hk'⟩ := moved_kept m
      refine ⟨.bl (ns.all id), H, I.kept hk', ?_, res.1 _ rv_bl⟩
      have : its.length = ns.length := by rw [vd.length, blsO_len e2, List.length_map]
      rw [this]
      show Value.bool _ = Value.bool _
      rw [← PySem.W.range_all id false ns]
      rfl
  · cases e
theorem call_anyM (hc : X.calm = true) : CallR X (.builtin "any") (rDN X.K (g1 anyD)) := cr_g1 fun pins s σ H x us Q F P d hd I r r1 e res => by
  unfold anyD at e
  split at e
  · rename_i l el
    cases e2 : blsO l with
    | none => rw [e2] at e; cases e
    | some ns =>
      rw [e2] at e; cases e
      obtain ⟨a, its, rfl, hl, vd⟩ := r1.its I el r
      refine call_any_walkH (iter_seqM (A := X.A.in1) (I.ok.hd hc) hl fun s₂ o St e W st hfp hw hk => ?_)
      subst e
      refine ⟨_, _, _, _, _, _, _, s.heap, _, rfl, W.toS, st, hw, hk, truthIn_bls e2 vd, fun s' m => ?_⟩
      obtain ⟨h', tk, rfl, hk'⟩ := moved_kept m
      refine ⟨.bl (ns.any id), H, I.kept hk', ?_, res.1 _ rv_bl⟩
      have : its.length = ns.length := by rw [vd.length, blsO_len e2, List.length_map]
      rw [this]
      show Value.bool _ = Value.bool _
      rw [← PySem.W.range_any id false ns]
      rfl
  · cases e
end
end Mi
set_option Elab.async false
set_option linter.all false
set_option maxRecDepth 100000
set_option maxHeartbeats 2000000
namespace Mi
open PySem PySem.Spec PyProof.Rows L2

/-! ### order by codes -/
mutual
def enc : D → List Int
  | .non => [0]
  | .bl b => [if b then 1 else 0]
  | .int i => [i]
  | .str x => encS x
  | .tup l => encs l
  | .lst l => encs l
  | _ => []
def encs : List D → List Int
  | [] => [0]
  | d :: ds => 1 :: (enc d ++ encs ds)
def encS : List Nat → List Int
  | [] => [0]
  | c :: cs => 1 :: (c : Int) :: encS cs
end
/-- one row before another -/
def rowB : List Int → List Int → Bool
  | [], [] => false
  | [], _ :: _ => true
  | _ :: _, [] => false
  | x :: xs, y :: ys => if x = y then rowB xs ys else decide (x < y)
theorem rowB_irrefl : ∀ p, rowB p p = false
  | [] => rfl
  | x :: p => by simp [rowB, rowB_irrefl p]
theorem rowB_asym : ∀ p q, rowB p q = true → rowB q p = false
  | [], [], h => by cases h
  | [], _ :: _, h => rfl
  | _ :: _, [], h => by cases h
  | x :: xs, y :: ys, h => by
    simp only [rowB] at h ⊢
    by_cases e : x = y
    · rw [if_pos e] at h
      rw [if_pos e.symm]
      exact rowB_asym xs ys h
    · rw [if_neg e] at h
      rw [if_neg (Ne.symm e)]
      have := of_decide_eq_true h
      exact decide_eq_false (by omega)
theorem rowB_tr : ∀ p q r, rowB q p = false → rowB r q = false → rowB r p = false
  | [], q, r, h1, h2 => by
    cases r with
    | nil => rfl
    | cons z r => rfl
  | x :: xs, [], r, h1, h2 => by cases h1
  | x :: xs, y :: ys, [], h1, h2 => by cases h2
  | x :: xs, y :: ys, z :: zs, h1, h2 => by
    simp only [rowB] at h1 h2 ⊢
    by_cases e : y = x
    · subst e
      rw [if_pos rfl] at h1
      by_cases e2 : z = y
      · subst e2
        rw [if_pos rfl] at h2 ⊢
        exact rowB_tr xs ys zs h1 h2
      · rw [if_neg e2] at h2 ⊢
        exact h2
    · rw [if_neg e] at h1
      have g1 := of_decide_eq_false h1
      by_cases e2 : z = y
      · subst e2
        rw [if_neg e]; exact h1
      · rw [if_neg e2] at h2
        have g2 := of_decide_eq_false h2
        rw [if_neg (by omega)]
        exact decide_eq_false (by omega)
theorem rowB_pre : ∀ (p q r : List Int), rowB (p ++ q) (p ++ r) = rowB q r
  | [], q, r => rfl
  | x :: p, q, r => by
    show (if x = x then rowB (p ++ q) (p ++ r) else _) = _
    rw [if_pos rfl, rowB_pre p q r]
/-- they part at a place within both -/
def Part (p q : List Int) (c : Bool) : Prop := ∃ (u : List Int) (a b : Int) (r r' : List Int), p = u ++ a :: r ∧ q = u ++ b :: r' ∧ a ≠ b ∧ c = decide (a < b)
theorem Part.row {p q : List Int} {c : Bool} (h : Part p q c) : rowB p q = c := by
  obtain ⟨u, a, b, r, r', rfl, rfl, ne, rfl⟩ := h
  rw [rowB_pre]
  show (if a = b then _ else decide (a < b)) = _
  rw [if_neg ne]
theorem Part.app {p q : List Int} {c : Bool} (h : Part p q c) (v s t : List Int) : Part (v ++ (p ++ s)) (v ++ (q ++ t)) c := by
  obtain ⟨u, a, b, r, r', rfl, rfl, ne, rfl⟩ := h
  exact ⟨v ++ u, a, b, r ++ s, r' ++ t, by simp, by simp, ne, rfl⟩
theorem Part.pre {p q : List Int} {c : Bool} (h : Part p q c) (v : List Int) : Part (v ++ p) (v ++ q) c := by
  have := h.app v [] []
  simpa using this
theorem encS_part : ∀ (x y : List Nat), x ≠ y → Part (encS x) (encS y) (decide (x < y))
  | [], [], h => absurd rfl h
  | [], c :: cs, h => ⟨[], 0, 1, [], (c : Int) :: encS cs, rfl, by simp [encS], by omega, by simp⟩
  | c :: cs, [], h => ⟨[], 1, 0, (c : Int) :: encS cs, [], by simp [encS], rfl, by omega, by simp⟩
  | c :: cs, b :: bs, h => by
    by_cases e : c = b
    · subst e
      have h' : cs ≠ bs := fun z => h (by rw [z])
      have := (encS_part cs bs h').pre [1, (c : Int)]
      have e2 : decide ((c :: cs) < (c :: bs)) = decide (cs < bs) := by
        congr 1
        simp [List.cons_lt_cons_iff]
      rw [e2]
      simpa [encS] using this
    · refine ⟨[1], c, b, encS cs, encS bs, by simp [encS], by simp [encS], by omega, ?_⟩
      congr 1
      simp [List.cons_lt_cons_iff, e]
theorem eqL_enc {n : Nat} (ih : ∀ d e, eqDn n d e = some true → enc d = enc e) : ∀ {xs ys : List D}, eqL (eqDn n) xs ys = some true → encs xs = encs ys
  | [], [], _ => rfl
  | [], _ :: _, h => by cases h
  | _ :: _, [], h => by cases h
  | x :: xs, y :: ys, h => by
    simp only [eqL] at h
    split at h
    · rename_i b r e1 e2
      have h' : (b && r) = true := Option.some.inj h
      simp only [Bool.and_eq_true] at h'
      obtain ⟨rfl, rfl⟩ := h'
      simp only [encs]
      rw [ih x y e1, eqL_enc ih e2]
    · cases h
theorem eqDn_enc : ∀ (n : Nat) (d e : D), eqDn n d e = some true → enc d = enc e := by
  intro n
  induction n with
  | zero => intro d e q; cases d <;> cases e <;> cases q
  | succ n ih =>
    intro d e q
    cases d <;> cases e <;> simp only [eqDn] at q
    all_goals first
      | (cases q; done)
      | skip
    all_goals simp only [enc]
    case bl.bl a b => have := Option.some.inj q; simp at this; rw [this]
    case bl.int a j => have := Option.some.inj q; simp at this; rw [this]
    case int.bl i b => have := Option.some.inj q; simp at this; rw [this]
    case int.int i j => have := Option.some.inj q; simp at this; rw [this]
    case str.str x y => have := Option.some.inj q; simp at this; rw [this]
    case tup.tup xs ys => exact eqL_enc ih q
    case lst.lst xs ys =>
      split at q
      · exact eqL_enc ih q
      · cases q
theorem ltL_enc {n : Nat} (ih : ∀ d e c, ltDn n d e = some c → (eqDn n d e = some true ∧ c = false ∧ enc d = enc e) ∨ (eqDn n d e = some false ∧ Part (enc d) (enc e) c)) : ∀ {xs ys : List D} {c : Bool}, ltL (eqDn n) (ltDn n) xs ys = some c →
    (eqL (eqDn n) xs ys = some true ∧ c = false ∧ encs xs = encs ys) ∨ (eqL (eqDn n) xs ys = some false ∧ Part (encs xs) (encs ys) c)
  | [], [], c, h => by cases h; exact .inl ⟨rfl, rfl, rfl⟩
  | [], y :: ys, c, h => by cases h; exact .inr ⟨rfl, [], 0, 1, [], enc y ++ encs ys, rfl, by simp [encs], by omega, by simp⟩
  | x :: xs, [], c, h => by cases h; exact .inr ⟨rfl, [], 1, 0, enc x ++ encs xs, [], by simp [encs], rfl, by omega, by simp⟩
  | x :: xs, y :: ys, c, h => by
    simp only [ltL] at h
    split at h
    · rename_i r e1 e2
      cases h
      simp only [encs, eqL, e1]
      rw [eqDn_enc n x y e1]
      rcases ltL_enc ih e2 with ⟨q0, q2, q1⟩ | ⟨q0, q⟩
      · rw [q0]; exact .inl ⟨rfl, q2, by rw [q1]⟩
      · right
        rw [q0]
        refine ⟨rfl, ?_⟩
        have := q.pre (1 :: enc y)
        simpa using this
    · rename_i r e1 e2
      right
      simp only [encs, eqL, e1]
      have h0 : ∃ z, eqL (eqDn n) xs ys = some z := by
        rcases ltL_enc ih e2 with ⟨q0, _⟩ | ⟨q0, _⟩ <;> exact ⟨_, q0⟩
      obtain ⟨z, hz⟩ := h0
      rw [hz]
      rcases ih x y c h with ⟨q0, _⟩ | ⟨_, q⟩
      · rw [e1] at q0; cases q0
      · have := q.app [1] (encs xs) (encs ys)
        exact ⟨rfl, by simpa using this⟩
    · cases h
theorem ltDn_enc : ∀ (n : Nat) (d e : D) (c : Bool), ltDn n d e = some c → (eqDn n d e = some true ∧ c = false ∧ enc d = enc e) ∨ (eqDn n d e = some false ∧ Part (enc d) (enc e) c) := by
  intro n
  induction n with
  | zero => intro d e c q; cases d <;> cases e <;> cases q
  | succ n ih =>
    intro d e c q
    cases d <;> cases e <;> simp only [ltDn] at q
    all_goals first
      | (cases q; done)
      | skip
    all_goals simp only [enc, eqDn]
    case int.int i j =>
      have := Option.some.inj q
      by_cases h : i = j
      · subst h
        exact .inl ⟨by simp, by rw [← this]; exact decide_eq_false (Int.lt_irrefl _), rfl⟩
      · exact .inr ⟨by simp [h], [], i, j, [], [], rfl, rfl, h, this.symm⟩
    case str.str x y =>
      have := Option.some.inj q
      by_cases h : x = y
      · subst h
        exact .inl ⟨by simp, by rw [← this]; exact decide_eq_false (by simp [List.lt_irrefl]), rfl⟩
      · exact .inr ⟨by simp [h], by rw [← this]; exact encS_part x y h⟩
    case tup.tup xs ys => exact ltL_enc ih q
theorem ltDn_row {n : Nat} {d e : D} {c : Bool} (h : ltDn n d e = some c) : rowB (enc d) (enc e) = c := by
  rcases ltDn_enc n d e c h with ⟨_, q, r⟩ | ⟨_, q⟩
  · rw [r, q]; exact rowB_irrefl _
  · exact q.row

/-! ### the sort's own comparisons -/
section
variable {prog : Program} {w : World} {A : Around} {E : Value → Shared → Prop} {s : Shared}
theorem kGen_eq (x y : Value) : keyLt' general' x y = oneLt' false x y := rfl
theorem oneLtF {n : Nat} {d e : D} {u v : Value} {c : Bool} {Q : Bool → Shared → Prop} (vd : Vd s.heap d u) (ve : Vd s.heap e v) (h : ltDn n d e = some c) (hu : A.units + n < cLine) (q : Q c s) : wpAny (model prog w) A (oneLt' false u v) Q E s := by
  rw [oneLt'_eq]
  simp only [Bool.false_eq_true, if_false]
  refine wpAny_bind (ltAt_of n d e c u v vd ve h A hu prog w E _ ?_)
  exact wpAny_truthy_bool q
theorem oneLtT {n : Nat} {d e : D} {u v : Value} {c : Bool} {Q : Bool → Shared → Prop} (vd : Vd s.heap d u) (ve : Vd s.heap e v) (h : ltDn n d e = some c) (hu : A.units + n < cLine) (q : Q c s) : wpAny (model prog w) A (oneLt' true u v) Q E s := by
  cases n with
  | zero => cases d <;> cases e <;> cases h
  | succ n =>
    cases d <;> cases e <;> simp only [ltDn] at h
    all_goals first
      | (cases h; done)
      | skip
    all_goals simp only [Vd] at vd ve
    case int.int i j =>
      obtain ⟨t, rfl⟩ := vd
      obtain ⟨t', rfl⟩ := ve
      cases h
      exact oneLt_int q
    case str.str x y =>
      obtain ⟨t, rfl⟩ := vd
      obtain ⟨t', rfl⟩ := ve
      cases h
      exact oneLt_str (by simpa using q)
    case tup.tup ds es =>
      obtain ⟨a, its, rfl, t, qs⟩ := vd
      obtain ⟨a', its', rfl, t', qs'⟩ := ve
      obtain ⟨h1, h2⟩ := ltL_all h
      have key : ∀ j (g1 : j < its.length) (g2 : j < its'.length), ∃ x y, ds[j]? = some x ∧ es[j]? = some y ∧ Vd s.heap x its[j] ∧ Vd s.heap y its'[j] := fun j g1 g2 => by
        have l1 : ds[j]? = some (ds[j]'(by rw [← qs.length]; exact g1)) := List.getElem?_eq_getElem _
        have l2 : es[j]? = some (es[j]'(by rw [← qs'.length]; exact g2)) := List.getElem?_eq_getElem _
        exact ⟨_, _, l1, l2, qs.get l1 (List.getElem?_eq_getElem g1), qs'.get l2 (List.getElem?_eq_getElem g2)⟩
      obtain ⟨⟨cls, dd, data, sl⟩, ho, hc, k, hd⟩ := id t
      obtain ⟨⟨cls2, dd2, data2, sl2⟩, ho2, hc2, k2, hd2⟩ := id t'
      simp only at hc hd hc2 hd2
      subst hc hd hc2 hd2
      rw [oneLt'_eq]
      simp only [if_true]
      refine wpAny_bind (wpAny_cRoomFor (by omega) ?_)
      refine wpAny_bind (wpAny_callSpecialIfBound?_slot (T := "tuple") ⟨_, ho, rfl⟩ PySem.F.slot_tuple_lt (call_meets PySem.F.slot_tuple_lt ⟨_, ho, rfl⟩ PySem.F.entry_tuple_lt (PySem.F.args_tuple_lt_2 _ _)
        (Ob.tuple_ltAt a a' its.toArray its'.toArray k k2 dd dd2 sl sl2 (eqJ (eqDn n) ds es) (eqJ (ltDn n) ds es)) ⟨ho, ho2, fun j g1 g2 => ?_, fun j g1 g2 hf => ?_, ?_⟩))
      · obtain ⟨x, y, l1, l2, v1, v2⟩ := key j (by simpa using g1) (by simpa using g2)
        have := (eqAt_of n _ _ _ _ _ v1 v2 (h2 j _ _ l1 l2).1 A.in1 (by show A.units + 1 + n < cLine; omega)).2
        simpa using this
      · obtain ⟨x, y, l1, l2, v1, v2⟩ := key j (by simpa using g1) (by simpa using g2)
        have := ltAt_of n _ _ _ _ _ v1 v2 ((h2 j _ _ l1 l2).2 hf) A.in1 (by show A.units + 1 + n < cLine; omega)
        simpa using this
      · have e1 : its.toArray.size = ds.length := by simp [qs.length]
        have e2 : its'.toArray.size = es.length := by simp [qs'.length]
        rw [e1, e2, ← h1]
        exact wpAny_truthy_bool q
theorem oneLtB {n : Nat} {d e : D} {u v : Value} {c b : Bool} {Q : Bool → Shared → Prop} (vd : Vd s.heap d u) (ve : Vd s.heap e v) (h : ltDn n d e = some c) (hu : A.units + n < cLine) (q : Q c s) : wpAny (model prog w) A (oneLt' b u v) Q E s := by
  cases b with
  | true => exact oneLtT vd ve h hu q
  | false => exact oneLtF vd ve h hu q
theorem katLexM {n : Nat} {b : Bool} {Q : Bool → Shared → Prop} (hu : A.units + n < cLine) : ∀ {ds es : List D} {its its' : List Value} {c : Bool} (i : Nat), Vds s.heap ds its → Vds s.heap es its' → ltL (eqDn n) (ltDn n) ds es = some c → Q c s →
    PySem.W.KatLex prog w A b (decide (ds.length < es.length)) Q (its.zip its') i s
  | [], es, its, its', c, i, v, v', h, q => by
    simp only [Vds] at v; subst v
    cases es with
    | nil => cases h; exact q
    | cons y ys => cases h; exact PySem.W.kat_nil (by simpa using q)
  | x :: xs, [], its, its', c, i, v, v', h, q => by
    simp only [Vds] at v'; subst v'
    rw [List.zip_nil_right]
    cases h
    exact PySem.W.kat_nil (by simpa using q)
  | x :: xs, y :: ys, its, its', c, i, v, v', h, q => by
    simp only [Vds] at v v'
    obtain ⟨u, ur, rfl, vx, vr⟩ := v
    obtain ⟨u', ur', rfl, vx', vr'⟩ := v'
    rw [List.zip_cons_cons]
    simp only [ltL] at h
    split at h
    · rename_i r e1 e2
      cases h
      refine PySem.W.kat_cons ((eqAt_of n x y true u u' vx vx' e1 A hu).2 prog w _ _ ?_)
      refine PySem.W.kat_yes ?_
      have := katLexM hu (b := b) (i + 1) vr vr' e2 q
      simpa using this
    · rename_i r e1 e2
      refine PySem.W.kat_cons ((eqAt_of n x y false u u' vx vx' e1 A hu).2 prog w _ _ ?_)
      exact PySem.W.kat_no (oneLtB vx vx' h hu q)
    · cases h
theorem keyLtM {n : Nat} {d e : D} {u v : Value} {c : Bool} {κ : SortKind} {Q : Bool → Shared → Prop} (hk : κ = oneType' ∨ κ = general' ∨ ((κ = tuples' true ∨ κ = tuples' false) ∧ (∃ l, d = .tup l) ∧ ∃ l, e = .tup l))
    (vd : Vd s.heap d u) (ve : Vd s.heap e v) (h : ltDn n d e = some c) (hu : A.units + n < cLine) (q : Q c s) : wpAny (model prog w) A (keyLt' κ u v) Q E s := by
  rcases hk with rfl | rfl | ⟨hb, ⟨l, rfl⟩, l', rfl⟩
  · rw [keyLt'_oneType]; exact oneLtT vd ve h hu q
  · rw [kGen_eq]; exact oneLtF vd ve h hu q
  · cases n with
    | zero => cases h
    | succ n =>
      simp only [ltDn] at h
      simp only [Vd] at vd ve
      obtain ⟨a, its, rfl, ⟨o, ho, hc, k, hd⟩, qs⟩ := vd
      obtain ⟨a', its', rfl, ⟨o', ho', hc', k', hd'⟩, qs'⟩ := ve
      rcases hb with rfl | rfl
      · refine PySem.W.kat_lt ho hd ho' hd' ?_
        have := katLexM (prog := prog) (w := w) (A := A) (b := true) (Q := Q) (by omega) 0 qs qs' h q
        simpa [qs.length, qs'.length] using this
      · refine PySem.W.kat_lt ho hd ho' hd' ?_
        have := katLexM (prog := prog) (w := w) (A := A) (b := false) (Q := Q) (by omega) 0 qs qs' h q
        simpa [qs.length, qs'.length] using this
end
end Mi
set_option Elab.async false
set_option linter.all false
set_option maxRecDepth 100000
set_option maxHeartbeats 2000000
namespace MiSort
open PySem PyProof.Rows Srt SrtO
section
variable {prog : Program} {w : World} {A : Around} {E : Value → Shared → Prop} {s : Shared}
/-- a list or a tuple of so many values -/
def SeqIs (h : Heap) (l : Addr) (vs : List Value) : Prop := ∃ o n, h.get? l = some o ∧ (o.cls = .type "list" ∨ o.cls = .type "tuple") ∧ o.data = .seq vs.toArray n
theorem collect_seq {l : Addr} {vs : List Value} {Q : List Value → Shared → Prop} (hl : SeqIs s.heap l vs)
    (h : Q vs { s with heap := (s.heap.push (seqObj "list" #[] 0)).update s.heap.objs.size (Obj.mapSeq (· ++ vs.toArray)) }) (hsz : vs.length ≤ sizeLine) :
    wpAny (model prog w) A (collect (.ref l)) Q E s := by
  obtain ⟨o, n, ho, hc, hd⟩ := hl
  unfold collect
  refine wpAny_bind (wpAny_runValue (codeAny_builtin entry_proto_collect' ?_))
  show wpAny _ _ (do again (.builtin "list.__iadd__" ⟨[← newList [], .ref l], []⟩)) _ _ s
  refine wpAny_bind (wpAny_newList (wpAny_pure ⟨Code.quiet_builtin _ (by decide +kernel), codeAny_builtin entry_list_iadd' ?_⟩))
  show wpAny _ _ (Builtin.List.listExtendWith (.ref s.heap.objs.size) (.ref l) (.ref s.heap.objs.size)) _ _ { s with heap := s.heap.push (seqObj "list" #[] 0) }
  unfold Builtin.List.listExtendWith
  have ho' : (s.heap.push (seqObj "list" #[] 0)).get? l = some o := Heap.get?_push_of_some _ ho
  rcases hc with hc | hc
  · refine wpAny_bind (wpAny_typeOf (T := "list") ⟨o, ho', hc⟩ ?_)
    have ht : (Value.type "list" == Value.type "list") = true := by rfl
    rw [if_pos (by rw [ht]; simp)]
    refine wpAny_bind (listItems_at ho' hd ?_)
    refine wpAny_bind (listItems_at (xs := #[]) (n := 0) (Heap.get?_push_size _ rfl) rfl ?_)
    rw [if_neg (by simp)]
    refine wpAny_bind (listUpdate_at (xs := #[]) (n := 0) (Heap.get?_push_size _ rfl) rfl ?_ (Nat.zero_le _) (by show (#[] ++ vs.toArray).size ≤ sizeLine + 1; simp only [Array.size_append, List.size_toArray, List.length_nil]; omega))
    refine wpAny_pure ?_
    show wpAny (model prog w) A (do
        let o ← load s.heap.objs.size
        match o.data with
        | .seq xs _ => pure xs.toList
        | _ => unsupported "internal:collect") Q E { s with heap := (s.heap.push (seqObj "list" #[] 0)).update s.heap.objs.size (Obj.mapSeq (· ++ vs.toArray)) }
    refine wpAny_bind (wpAny_load (get?_update_seq (Heap.get?_push_size _ rfl) _) ?_)
    show wpAny _ _ (pure ((#[] : Array Value) ++ vs.toArray).toList) Q E _
    rw [show ((#[] : Array Value) ++ vs.toArray).toList = vs by simp]
    exact wpAny_pure h
  · refine wpAny_bind (wpAny_typeOf (T := "tuple") ⟨o, ho', hc⟩ ?_)
    have ht : (Value.type "tuple" == Value.type "tuple") = true := by rfl
    rw [if_pos (by rw [ht]; simp)]
    refine wpAny_bind (listItems_at ho' hd ?_)
    refine wpAny_bind (listItems_at (xs := #[]) (n := 0) (Heap.get?_push_size _ rfl) rfl ?_)
    rw [if_neg (by simp)]
    refine wpAny_bind (listUpdate_at (xs := #[]) (n := 0) (Heap.get?_push_size _ rfl) rfl ?_ (Nat.zero_le _) (by show (#[] ++ vs.toArray).size ≤ sizeLine + 1; simp only [Array.size_append, List.size_toArray, List.length_nil]; omega))
    refine wpAny_pure ?_
    show wpAny (model prog w) A (do
        let o ← load s.heap.objs.size
        match o.data with
        | .seq xs _ => pure xs.toList
        | _ => unsupported "internal:collect") Q E { s with heap := (s.heap.push (seqObj "list" #[] 0)).update s.heap.objs.size (Obj.mapSeq (· ++ vs.toArray)) }
    refine wpAny_bind (wpAny_load (get?_update_seq (Heap.get?_push_size _ rfl) _) ?_)
    show wpAny _ _ (pure ((#[] : Array Value) ++ vs.toArray).toList) Q E _
    rw [show ((#[] : Array Value) ++ vs.toArray).toList = vs by simp]
    exact wpAny_pure h
theorem sorted_seq {l : Addr} {vs : List Value} {ltv : Value → Value → Bool} {Q : Value → Shared → Prop} (O : Swo ltv) (hl : SeqIs s.heap l vs) (hz : vs.length ≤ sizeLine)
    (hS : 2 ≤ vs.length → ∀ (h₁ : Heap) (a : Addr), h₁.get? a = some (seqObj "list" vs.toArray 0) → (∀ b o, s.heap.get? b = some o → b ≠ a ∧ h₁.get? b = some o) → SortableO prog w A.in1.in1 { s with heap := h₁ } a vs ltv)
    (h : ∀ out : List Value, Srtd ltv out → Stb ltv out vs → Q (.ref (s.heap.objs.size + 1)) { s with heap := sortedAll s.heap vs out.toArray }) :
    wpAny (model prog w) A (call (.builtin "sorted") [.ref l]) Q E s := by
  refine Calls.call_function_entry kind_sorted plain_sorted entry_sorted (args_sorted1 _) ?_
  unfold Builtin.«sorted»
  refine wpAny_bind (m := checkCount "sorted" 1 1 _) (wpAny_pure ?_)
  refine wpAny_bind (collect_seq hl ?_ hz)
  refine wpAny_bind (wpAny_newList ?_ hz)
  have hsz : ((s.heap.push (seqObj "list" #[] 0)).update s.heap.objs.size (Obj.mapSeq (· ++ vs.toArray))).objs.size = s.heap.objs.size + 1 := by
    rw [Heap.size_update, size_push']
  have hoL : (((s.heap.push (seqObj "list" #[] 0)).update s.heap.objs.size (Obj.mapSeq (· ++ vs.toArray))).push (seqObj "list" vs.toArray 0)).get? (s.heap.objs.size + 1) = some (seqObj "list" vs.toArray 0) := by
    rw [← hsz]; exact Heap.get?_push_size _ rfl
  have keep : ∀ b o, s.heap.get? b = some o → b ≠ s.heap.objs.size + 1 ∧ (((s.heap.push (seqObj "list" #[] 0)).update s.heap.objs.size (Obj.mapSeq (· ++ vs.toArray))).push (seqObj "list" vs.toArray 0)).get? b = some o := fun b o q => by
    have hlt : b < s.heap.objs.size := Heap.lt_size q
    refine ⟨Nat.ne_of_lt (Nat.lt_succ_of_lt hlt), Heap.get?_push_of_some _ ?_⟩
    rw [Heap.get?_update_ne _ _ _ _ (Nat.ne_of_lt hlt)]
    exact Heap.get?_push_of_some _ q
  show wpAny _ _ _ _ _ { s with heap := ((s.heap.push (seqObj "list" #[] 0)).update s.heap.objs.size (Obj.mapSeq (· ++ vs.toArray))).push (seqObj "list" vs.toArray 0) }
  rw [hsz]
  refine wpAny_bind (wpAny_holding (wpAny_call_entry slot_list_sort ⟨_, hoL, rfl⟩ entry_list_sort (list_sort_ord O hoL hz (fun h2 => hS h2 _ _ hoL keep) fun out hs hb => ⟨_, rfl, ?_⟩) (args_list_sort _)))
  exact wpAny_pure ⟨_, rfl, h out hs hb⟩
end
end MiSort
set_option Elab.async false
set_option linter.all false
set_option maxRecDepth 100000
set_option maxHeartbeats 2000000
namespace Mi
open PySem PySem.Spec PyProof.Rows L2

section
variable {h h' : Heap} (k : ∀ b o, h.get? b = some o → h'.get? b = some o)
include k
mutual
theorem Vd.keep : ∀ (d : D) (u : Value), Vd h d u → Vd h' d u
  | .non, u, q => by simp only [Vd] at q ⊢; exact q
  | .bl b, u, q => by simp only [Vd] at q ⊢; exact q
  | .int i, u, q => by simp only [Vd] at q ⊢; exact q
  | .str x, u, q => by simp only [Vd] at q ⊢; exact q
  | .tup ds, u, q => by
    simp only [Vd] at q ⊢
    obtain ⟨a, its, e, ⟨o, ho, r⟩, qs⟩ := q
    exact ⟨a, its, e, ⟨o, k _ _ ho, r⟩, Vds.keep ds its qs⟩
  | .lst ds, u, q => by
    simp only [Vd] at q ⊢
    obtain ⟨a, its, e, ⟨o, ho, r⟩, qs⟩ := q
    exact ⟨a, its, e, ⟨o, k _ _ ho, r⟩, Vds.keep ds its qs⟩
  | .dic _, u, q => by simp only [Vd]
  | .pot, u, q => by simp only [Vd]
  | .scr _, u, q => by simp only [Vd]
  | .rep _, u, q => by simp only [Vd]
theorem Vds.keep : ∀ (ds : List D) (us : List Value), Vds h ds us → Vds h' ds us
  | [], us, q => by simp only [Vds] at q ⊢; exact q
  | d :: ds, us, q => by
    simp only [Vds] at q ⊢
    obtain ⟨u, ur, e, q, r⟩ := q
    exact ⟨u, ur, e, Vd.keep d u q, Vds.keep ds ur r⟩
end
end
def isTupD : D → Bool
  | .tup _ => true
  | _ => false
def isIntD : D → Bool
  | .int _ => true
  | _ => false
def isStrD : D → Bool
  | .str _ => true
  | _ => false
section
variable {M : Model} {A : Around} {E : Value → Shared → Prop} {s : Shared}
theorem firstsM : ∀ (ds : List D) (its : List Value), Vds s.heap ds its → ds.all isTupD = true → plDs ds = true → ∃ fs : List (Option Value), (∀ f, some f ∈ fs → ∃ d, plD d = true ∧ Vd s.heap d f) ∧
    ∀ (E : Value → Shared → Prop) (Q : List (Option Value) → Shared → Prop), Q fs s → wpAny M A (its.mapM firstOfTuple') Q E s
  | [], its, v, _, _ => by
    simp only [Vds] at v; subst v
    exact ⟨[], ⟨fun f h => by simp at h, fun E Q q => by rw [List.mapM_nil]; exact wpAny_pure q⟩⟩
  | d :: ds, its, v, ht, pl => by
    simp only [Vds] at v
    obtain ⟨u, ur, rfl, q, r⟩ := v
    simp only [List.all_cons, Bool.and_eq_true] at ht
    simp only [plDs, Bool.and_eq_true] at pl
    obtain ⟨fs, h1, h2⟩ := firstsM ds ur r ht.2 pl.2
    cases d with
    | tup xs =>
      simp only [Vd] at q
      obtain ⟨a, ys, rfl, ⟨o, ho, hc, n, hd⟩, qs⟩ := q
      refine ⟨ys[0]? :: fs, fun f hf => ?_, fun E Q hq => ?_⟩
      · rcases List.mem_cons.mp hf with e | hf
        · cases xs with
          | nil => simp only [Vds] at qs; subst qs; cases e
          | cons x xs =>
            simp only [Vds] at qs
            obtain ⟨y, yr, rfl, q1, _⟩ := qs
            cases e
            have pl1 := pl.1
            simp only [plD, plDs, Bool.and_eq_true] at pl1
            exact ⟨x, pl1.1, q1⟩
        · exact h1 f hf
      · rw [List.mapM_cons]
        refine wpAny_bind ?_
        rw [PySem.W.kas_first_eq]
        refine wpAny_bind (PySem.W.Looks.here (show PySem.W.Looks M s.heap (typeOf (.ref a)) o.cls from (PySem.W.Looks.ld ho).andThen .now) ?_)
        rw [hc, if_neg (by first | decide | simp)]
        refine wpAny_bind (listItems_at ho hd (wpAny_pure ?_))
        have e0 : ys.toArray[0]? = ys[0]? := by simp
        rw [e0]
        exact wpAny_bind (h2 E (fun bs s' => wpAny M A (pure (ys[0]? :: bs)) Q E s') (wpAny_pure hq))
    | _ => simp [isTupD] at ht
theorem typeM {d : D} {u : Value} (pl : plD d = true) (v : Vd s.heap d u) : ∃ t : Value, PySem.W.Looks M s.heap (typeOf u) t := by
  cases d with
  | non => simp only [Vd] at v; subst v; exact ⟨_, PySem.W.Looks.now⟩
  | bl b => simp only [Vd] at v; subst v; exact ⟨_, PySem.W.Looks.now⟩
  | int i => simp only [Vd] at v; obtain ⟨t, rfl⟩ := v; exact ⟨_, PySem.W.Looks.now⟩
  | str x => simp only [Vd] at v; obtain ⟨t, rfl⟩ := v; exact ⟨_, PySem.W.Looks.now⟩
  | tup l =>
    simp only [Vd] at v
    obtain ⟨a, ys, rfl, ⟨o, ho, hc, n, hd⟩, qs⟩ := v
    exact ⟨_, (show PySem.W.Looks M s.heap (typeOf (.ref a)) o.cls from (PySem.W.Looks.ld ho).andThen .now)⟩
  | lst l =>
    simp only [Vd] at v
    obtain ⟨a, ys, rfl, ⟨o, ho, hc, n, hd⟩, qs⟩ := v
    exact ⟨_, (show PySem.W.Looks M s.heap (typeOf (.ref a)) o.cls from (PySem.W.Looks.ld ho).andThen .now)⟩
  | _ => simp [plD] at pl
theorem typesM : ∀ (us : List Value), (∀ u ∈ us, ∃ d, plD d = true ∧ Vd s.heap d u) → ∃ ts : List Value, ∀ (E : Value → Shared → Prop) (Q : List Value → Shared → Prop), Q ts s → wpAny M A (us.mapM typeOf) Q E s
  | [], _ => ⟨[], fun E Q q => by rw [List.mapM_nil]; exact wpAny_pure q⟩
  | u :: us, h => by
    obtain ⟨ts, ht⟩ := typesM us fun x m => h x (List.mem_cons_of_mem _ m)
    obtain ⟨d, pl, v⟩ := h u List.mem_cons_self
    obtain ⟨t, hl⟩ := typeM (M := M) pl v
    refine ⟨t :: ts, fun E Q q => ?_⟩
    rw [List.mapM_cons]
    exact wpAny_bind (hl.here (wpAny_bind (ht E (fun bs s' => wpAny M A (pure (t :: bs)) Q E s') (wpAny_pure q))))
theorem oneTypeM (us : List Value) (h : ∀ u ∈ us, ∃ d, plD d = true ∧ Vd s.heap d u) : ∃ r : Option Value, ∀ (E : Value → Shared → Prop) (Q : Option Value → Shared → Prop), Q r s → wpAny M A (oneTypeOnly' us.toArray) Q E s := by
  obtain ⟨ts, ht⟩ := typesM (M := M) (A := A) us h
  refine ⟨match ts.toArray[0]? with | some t => if ts.toArray.all (· == t) then some t else none | none => none, fun E Q q => ?_⟩
  rw [oneTypeOnly'_eq, List.mapM_toArray, map_eq_pure_bind]
  refine wpAny_bind (wpAny_bind (ht E _ (wpAny_pure ?_)))
  cases e : ts.toArray[0]? with
  | none => rw [e] at q; exact wpAny_pure q
  | some t =>
    rw [e] at q
    dsimp only at q ⊢
    cases e2 : ts.toArray.all (· == t) with
    | true => rw [e2] at q; exact wpAny_pure q
    | false => rw [e2] at q; exact wpAny_pure q
theorem Vds.plain {h : Heap} {ds : List D} {us : List Value} (v : Vds h ds us) (pl : plDs ds = true) : ∀ u ∈ us, ∃ d, plD d = true ∧ Vd h d u := by
  intro u m
  obtain ⟨i, d, e1, e2, q⟩ := v.mem m
  have : ∀ {ds : List D}, plDs ds = true → ∀ d ∈ ds, plD d = true := fun {ds} => by
    induction ds with
    | nil => intro _ d m; cases m
    | cons x xs ih =>
      intro p d m
      simp only [plDs, Bool.and_eq_true] at p
      rcases List.mem_cons.mp m with rfl | m
      · exact p.1
      · exact ih p.2 d m
  exact ⟨d, this pl d (List.mem_of_getElem? e1), q⟩
theorem kindT {ds : List D} {its : List Value} (v : Vds s.heap ds its) (pl : plDs ds = true) (ht : ds.all isTupD = true) : ∃ κ : SortKind, (κ = oneType' ∨ κ = general' ∨ κ = tuples' true ∨ κ = tuples' false) ∧
    ∀ (E : Value → Shared → Prop) (Q : SortKind → Shared → Prop), Q κ s → wpAny M A (keyKind' its.toArray) Q E s := by
  obtain ⟨fs, h1, h2⟩ := firstsM (M := M) (A := A) ds its v ht pl
  obtain ⟨r1, hr1⟩ := oneTypeM (M := M) (A := A) (fs.filterMap id) fun u m => by
    obtain ⟨o, m1, e⟩ := List.mem_filterMap.mp m
    have e' : o = some u := e
    subst e'
    exact h1 u m1
  obtain ⟨r2, hr2⟩ := oneTypeM (M := M) (A := A) its (v.plain pl)
  by_cases hall : (fs.toArray.all fun x => x.isSome) = true
  · refine ⟨tuples' (r1.any (· != .type "tuple")), ?_, fun E Q q => ?_⟩
    · cases r1.any (· != .type "tuple") with
      | true => exact .inr (.inr (.inl rfl))
      | false => exact .inr (.inr (.inr rfl))
    · rw [PyProof.Rows.kat_kind_eq, List.mapM_toArray, map_eq_pure_bind]
      refine wpAny_bind (wpAny_bind (h2 E _ (wpAny_pure ?_)))
      rw [if_pos hall]
      refine wpAny_bind (wpAny_rule ?_)
      have hfm : (fs.toArray.filterMap id) = (fs.filterMap id).toArray := by simp
      rw [hfm]
      exact wpAny_bind (hr1 E _ (wpAny_pure q))
  · by_cases hf : (fs.toArray[0]?.bind id).isSome = true
    · refine ⟨general', .inr (.inl rfl), fun E Q q => ?_⟩
      rw [PyProof.Rows.kat_kind_eq, List.mapM_toArray, map_eq_pure_bind]
      refine wpAny_bind (wpAny_bind (h2 E _ (wpAny_pure ?_)))
      rw [if_neg hall, if_pos hf]
      exact wpAny_pure q
    · refine ⟨if r2.isSome then oneType' else general', ?_, fun E Q q => ?_⟩
      · cases r2.isSome with
        | true => exact .inl rfl
        | false => exact .inr (.inl rfl)
      · rw [PyProof.Rows.kat_kind_eq, List.mapM_toArray, map_eq_pure_bind]
        refine wpAny_bind (wpAny_bind (h2 E _ (wpAny_pure ?_)))
        rw [if_neg hall, if_neg hf]
        exact wpAny_bind (hr2 E _ (wpAny_pure q))
end
/-! ### sorted -/
def sortOk (l : List D) : Bool := plDs l && (l.all isIntD || l.all isStrD || l.all isTupD) && (decide (l.length < 2) || l.all fun a => l.all fun b => (ltDn DEEP a b).isSome)
def sortL (l : List D) : List D := l.mergeSort fun a b => !rowB (enc b) (enc a)
def sortedD : D → Option Hd
  | .lst l => if sortOk l then some (.tmp (.lst (sortL l))) else none
  | .tup l => if sortOk l then some (.tmp (.lst (sortL l))) else none
  | _ => none
theorem sortedD_ns : NS1 sortedD := by
  intro d h q; unfold sortedD at q; split at q
  · split at q <;> cases q; rfl
  · split at q <;> cases q; rfl
  · cases q
noncomputable def keyV (h : Heap) (u : Value) : List Int := @dite _ (∃ d, plD d = true ∧ Vd h d u) (Classical.propDecidable _) (fun p => enc p.choose) (fun _ => [])
theorem keyV_eq {h : Heap} {d : D} {u : Value} (pl : plD d = true) (v : Vd h d u) : keyV h u = enc d := by
  unfold keyV
  rw [dif_pos ⟨d, pl, v⟩]
  have sp := (show ∃ d, plD d = true ∧ Vd h d u from ⟨d, pl, v⟩).choose_spec
  rw [Vd.inj _ _ _ sp.1 pl sp.2 v]
theorem rvs_map {α : Type} {K : PySem.W.Frag} {F P : Addr → Prop} {H : Hp} {f : α → D} {g : α → V} : ∀ {l : List α}, (∀ t ∈ l, RV K F P H (f t) (g t)) → RVs K F P H (l.map f) (l.map g)
  | [], _ => .nil
  | t :: l, h => .cons (h t List.mem_cons_self) (rvs_map fun x m => h x (List.mem_cons_of_mem _ m))
theorem vals_map {α : Type} {f : α → V} {g : α → Value} : ∀ {l : List α}, (∀ t ∈ l, RelV (f t) (g t)) → Vals (l.map f) (l.map g)
  | [], _ => .nil
  | t :: l, h => .cons (h t List.mem_cons_self) (vals_map fun x m => h x (List.mem_cons_of_mem _ m))
theorem triples {K : PySem.W.Frag} {F P : Addr → Prop} {H : Hp} : ∀ {l : List D} {vs : List V} {its : List Value}, RVs K F P H l vs → Vals vs its → ∃ tt : List (D × V × Value), tt.map (·.1) = l ∧ tt.map (·.2.1) = vs ∧ tt.map (·.2.2) = its ∧ ∀ t ∈ tt, RV K F P H t.1 t.2.1 ∧ RelV t.2.1 t.2.2
  | [], vs, its, r, q => by rw [r.unnil] at q ⊢; cases q; exact ⟨[], rfl, rfl, rfl, fun t m => by cases m⟩
  | d :: l, vs, its, r, q => by
    obtain ⟨v, vr, rfl, r1, rr⟩ := r.uncons
    cases q with
    | cons q1 qr =>
      rename_i u ur
      obtain ⟨tt, h1, h2, h3, h4⟩ := triples rr qr
      refine ⟨(d, v, u) :: tt, by simp [h1], by simp [h2], by simp [h3], fun t m => ?_⟩
      rcases List.mem_cons.mp m with rfl | m
      · exact ⟨r1, q1⟩
      · exact h4 t m
theorem swoKey (h : Heap) : SrtO.Swo fun u v : Value => rowB (keyV h u) (keyV h v) :=
  ⟨fun x y => rowB_asym _ _, fun x y z h1 h2 => rowB_tr _ _ _ h1 h2⟩
theorem sortTotal {α : Type} (k : α → List Int) : PySem.W.TotalLe fun a b : α => !rowB (k b) (k a) :=
  ⟨fun a b c h1 h2 => by
    simp only [Bool.not_eq_true'] at h1 h2 ⊢
    exact rowB_tr _ _ _ h1 h2, fun a b => by
    cases e : rowB (k b) (k a) with
    | false => exact .inl rfl
    | true => exact .inr (by rw [rowB_asym _ _ e]; rfl)⟩
section
variable {X : Cx}
theorem call_sortedM (hu : X.A.units + DEEP + 3 < cLine) : CallR X (.builtin "sorted") (rDN X.K (g1 sortedD)) := cr_g1 fun pins s σ H x us Q F P d hd I r r1 e res => by
  obtain ⟨l, ok, he, hx⟩ : ∃ l, sortOk l = true ∧ hd = .tmp (.lst (sortL l)) ∧ (d = .lst l ∨ d = .tup l) := by
    unfold sortedD at e
    split at e
    · rename_i l
      split at e
      · rename_i ok; cases e; exact ⟨l, ok, rfl, .inl rfl⟩
      · cases e
    · rename_i l
      split at e
      · rename_i ok; cases e; exact ⟨l, ok, rfl, .inr rfl⟩
      · cases e
    · cases e
  subst he
  obtain ⟨a, vs, its, hxr, ra, rv, hl, hz⟩ : ∃ a vs its, x = .ref a ∧ RVs X.K F P H l vs ∧ Vals vs its ∧ MiSort.SeqIs s.heap a its ∧ vs.length ≤ sizeLine := by
    rcases hx with rfl | rfl
    · obtain ⟨a, vs, rfl, ha, ra⟩ := r1.lst
      obtain ⟨its, rv, hl, hz⟩ := I.list (.of ha)
      obtain ⟨o, ho, hc, n, hd⟩ := hl.isList
      exact ⟨a, vs, its, rfl, ra, rv, ⟨o, n, ho, .inl hc, hd⟩, hz⟩
    · obtain ⟨a, vs, rfl, ha, ra⟩ := r1.tup
      obtain ⟨its, rv, hl, hz⟩ := I.tuple (.of ha)
      obtain ⟨o, ho, hc, n, hd⟩ := hl
      exact ⟨a, vs, its, rfl, ra, rv, ⟨o, n, ho, .inr hc, hd⟩, hz⟩
  subst hxr
  rw [Vals.ref1 r]
  have vd := RVs.vd I l vs its ra rv
  unfold sortOk at ok
  simp only [Bool.and_eq_true, Bool.or_eq_true] at ok
  obtain ⟨⟨pl, hk⟩, hp⟩ := ok
  have hlen : its.length = l.length := vd.length
  refine MiSort.sorted_seq (swoKey s.heap) hl (by rw [← rv.length]; exact hz) (fun h2 h₁ a' ha' kk => ?_) fun out h1 h2 => ?_
  · have hp' : ∀ x ∈ l, ∀ y ∈ l, ∃ c, ltDn DEEP x y = some c := by
      intro x mx y my
      rcases hp with hp | hp
      · have := of_decide_eq_true hp; omega
      · rw [List.all_eq_true] at hp
        have := hp x mx
        rw [List.all_eq_true] at this
        exact Option.isSome_iff_exists.mp (this y my)
    intro h' keep
    have k' : ∀ b o, s.heap.get? b = some o → h'.get? b = some o := fun b o e => keep b o (kk b o e).1 (kk b o e).2
    have vd' : Vds h' l its := Vds.keep k' l its vd
    have cmp : ∀ κ : SortKind, (κ = oneType' ∨ κ = general' ∨ ((κ = tuples' true ∨ κ = tuples' false) ∧ l.all isTupD = true)) → SrtO.Cmp X.prog X.w X.A.in1.in1 { s with heap := h' } κ (fun p => p.1 ∈ its) (SrtO.lt2 fun u v : Value => rowB (keyV s.heap u) (keyV s.heap v)) := by
      intro κ hκ p q mp mq
      obtain ⟨i, x, e1, e2, qx⟩ := vd.mem mp
      obtain ⟨j, y, e3, e4, qy⟩ := vd.mem mq
      have mx := List.mem_of_getElem? e1
      have my := List.mem_of_getElem? e3
      obtain ⟨c, hc⟩ := hp' x mx y my
      have plx : plD x = true := by
        obtain ⟨d, p1, p2⟩ := vd.plain pl p.1 mp
        have := plDs_mem pl x mx
        exact this
      have ply : plD y = true := plDs_mem pl y my
      refine keyLtM (n := DEEP) (d := x) (e := y) (c := c) ?_ (Vd.keep k' _ _ qx) (Vd.keep k' _ _ qy) hc (by show X.A.units + 1 + 1 + DEEP < cLine; omega) ⟨rfl, ?_⟩
      · rcases hκ with h | h | ⟨h, ht⟩
        · exact .inl h
        · exact .inr (.inl h)
        · rw [List.all_eq_true] at ht
          have t1 := ht x mx
          have t2 := ht y my
          cases x <;> simp [isTupD] at t1
          cases y <;> simp [isTupD] at t2
          exact .inr (.inr ⟨h, ⟨_, rfl⟩, ⟨_, rfl⟩⟩)
      · show c = rowB (keyV s.heap p.1) (keyV s.heap q.1)
        rw [keyV_eq plx qx, keyV_eq ply qy]
        exact (ltDn_row hc).symm
    rcases hk with (hk | hk) | hk
    · refine ⟨oneType', fun Q E hq => ?_, cmp _ (.inl rfl)⟩
      refine PySem.W.kas_kind (T := .type "int") h2 (fun v m => ?_) (by rfl) (by rfl) hq
      obtain ⟨i, x, e1, e2, qx⟩ := vd'.mem m
      rw [List.all_eq_true] at hk
      have := hk x (List.mem_of_getElem? e1)
      cases x <;> simp [isIntD] at this
      simp only [Vd] at qx
      obtain ⟨t, rfl⟩ := qx
      exact PySem.W.Looks.now
    · refine ⟨oneType', fun Q E hq => ?_, cmp _ (.inl rfl)⟩
      refine PySem.W.kas_kind (T := .type "str") h2 (fun v m => ?_) (by rfl) (by rfl) hq
      obtain ⟨i, x, e1, e2, qx⟩ := vd'.mem m
      rw [List.all_eq_true] at hk
      have := hk x (List.mem_of_getElem? e1)
      cases x <;> simp [isStrD] at this
      simp only [Vd] at qx
      obtain ⟨t, rfl⟩ := qx
      exact PySem.W.Looks.now
    · obtain ⟨κ, hκ, hr⟩ := kindT (M := model X.prog X.w) (A := X.A.in1.in1) (s := { s with heap := h' }) vd' pl hk
      refine ⟨κ, fun Q E hq => hr E Q hq, cmp κ ?_⟩
      rcases hκ with h | h | h | h
      · exact .inl h
      · exact .inr (.inl h)
      · exact .inr (.inr ⟨.inl h, hk⟩)
      · exact .inr (.inr ⟨.inr h, hk⟩)
  · -- the sorted list
    have eo : out = its.mergeSort fun u v => !rowB (keyV s.heap v) (keyV s.heap u) := by
      refine PySem.W.sort_unique (sortTotal _) (h1.imp fun {x y} z => by
        have z' : rowB (keyV s.heap y) (keyV s.heap x) = false := z
        show (!rowB (keyV s.heap y) (keyV s.heap x)) = true
        rw [z']; rfl) fun c => ?_
      have := h2.cls c
      have e3 : PySem.W.sameRank (fun u v : Value => !rowB (keyV s.heap v) (keyV s.heap u)) c = SrtO.eqv (fun u v : Value => rowB (keyV s.heap u) (keyV s.heap v)) c := by
        funext z
        show (!_ && !_) = (!_ && !_)
        rw [Bool.and_comm]
      rw [e3]
      exact this
    obtain ⟨tt, t1, t2, t3, t4⟩ := triples ra rv
    have key : ∀ t ∈ tt, keyV s.heap t.2.2 = enc t.1 := fun t m => by
      have m1 : t.1 ∈ l := by rw [← t1]; exact List.mem_map.mpr ⟨t, m, rfl⟩
      exact keyV_eq (plDs_mem pl _ m1) (RV.vd I t.1 t.2.1 t.2.2 (t4 t m).1 (t4 t m).2)
    let ss := tt.mergeSort fun t t' => !rowB (enc t'.1) (enc t.1)
    have s1 : ss.map (·.1) = sortL l := by
      show _ = List.mergeSort l _
      rw [← t1]
      exact PySem.W.sort_maps (fun t : D × V × Value => t.1) fun a _ b _ => rfl
    have s3 : ss.map (·.2.2) = out := by
      rw [eo, ← t3]
      exact PySem.W.sort_maps (fun t : D × V × Value => t.2.2) fun a ma b mb => by rw [key a ma, key b mb]
    have mem : ∀ t ∈ ss, t ∈ tt := fun t m => List.mem_mergeSort.mp m
    have rvs : RVs X.K F P H (sortL l) (ss.map (·.2.1)) := by
      rw [← s1]
      exact rvs_map fun t m => (t4 t (mem t m)).1
    have vls : Vals (ss.map (·.2.1)) out := by
      rw [← s3]
      exact vals_map fun t m => (t4 t (mem t m)).2
    obtain ⟨ep, he'⟩ := PyProof.Rows.sortedAll_at s.heap its out.toArray
    have hlen2 : (ss.map (·.2.1)).length ≤ sizeLine := by
      have : ss.length = tt.length := List.length_mergeSort _
      rw [List.length_map, this, ← List.length_map (f := (·.2.1)), t2]
      exact hz
    exact ⟨.ref _, upd H (s.heap.objs.size + 1) (.lst (ss.map (·.2.1))), I.laid (t' := s.toks) (fun _ _ => PyProof.Rows.sortedAll_old) (Nat.le_succ _) ⟨hlen2, out, ep, vls, he'⟩, rfl, res _ _ _ rfl rvs (I.hok.fresh (Nat.le_succ _))⟩
where
  plDs_mem : ∀ {ds : List D}, plDs ds = true → ∀ d ∈ ds, plD d = true
    | [], _, d, m => by cases m
    | x :: xs, p, d, m => by
      simp only [plDs, Bool.and_eq_true] at p
      rcases List.mem_cons.mp m with rfl | m
      · exact p.1
      · exact plDs_mem p.2 d m
end
end Mi
set_option Elab.async false
set_option linter.all false
set_option maxRecDepth 100000
set_option maxHeartbeats 2000000
namespace Mi
open PySem PySem.Spec PyProof.Rows L2

/-! ### min, max of many -/
def minL (x : D) (xs : List D) : D := xs.foldl (fun a y => if rowB (enc y) (enc a) then y else a) x
def minOk (l : List D) : Bool := l.all fun a => l.all fun b => (ltDn DEEP a b).isSome
def minD (d : D) : Option Hd := match seqD d with
  | some (x :: xs) => if minOk (x :: xs) then some (.val (minL x xs)) else none
  | _ => none
def maxD (d : D) : Option Hd := match seqD d with
  | some l => match intsO l with
    | some (n :: ns) => some (.val (.int (ns.foldl max n)))
    | _ => none
  | _ => none
theorem minD_ns : NS1 minD := by
  intro d h q; unfold minD at q; split at q
  · split at q <;> cases q; rfl
  · cases q
theorem maxD_ns : NS1 maxD := by
  intro d h q; unfold maxD at q; split at q
  · split at q <;> cases q; rfl
  · cases q
section
variable {X : Cx}
theorem call_minM (hc : X.calm = true) (hu : X.A.units + DEEP + 1 < cLine) : CallR X (.builtin "min") (rDN X.K (g1 minD)) := cr_g1 fun pins s σ H x us Q F P d hd I r r1 e res => by
  unfold minD at e
  split at e
  · rename_i y ys el
    split at e
    · rename_i ok
      cases e
      obtain ⟨p, vs, rfl, rs, ha⟩ := r1.seq el
      have r' := r
      obtain ⟨its, rv, hl⟩ : ∃ its, Vals vs its ∧ (s.heap.IsList p its.toArray ∨ IsTup s.heap p its.toArray) := by
        rcases ha with ⟨ha, _⟩ | ⟨ha, _⟩
        · obtain ⟨its, rv, p, _⟩ := I.tuple (.of ha); exact ⟨its, rv, .inr p⟩
        · obtain ⟨its, rv, p, _⟩ := I.list (.of ha); exact ⟨its, rv, .inl p.isList⟩
      rw [Vals.ref1 r]
      have vd := RVs.vd I _ vs its rs rv
      have hlen : its.length = ys.length + 1 := by rw [vd.length]; rfl
      have hp' : ∀ a ∈ y :: ys, ∀ b ∈ y :: ys, ∃ c, ltDn DEEP a b = some c := by
        intro a ma b mb
        unfold minOk at ok
        rw [List.all_eq_true] at ok
        have := ok a ma
        rw [List.all_eq_true] at this
        exact Option.isSome_iff_exists.mp (this b mb)
      refine call_min_walkH (iter_seqM (A := X.A.in1) (I.ok.hd hc) hl fun s₂ o St e W st hfp hw hk => ?_)
      subst e
      refine ⟨_, _, _, _, _, _, _, s.heap, fun i j => rowB (enc ((y :: ys).getD i y)) (enc ((y :: ys).getD j y)), rfl, W.toS, st, hfp, by omega, hw, hk, ?_, fun v s' hP m => ?_⟩
      · intro i j vi vj s' Q' E' hk' hi hj hq
        have gi : i < (y :: ys).length := by rw [← vd.length]; exact (List.getElem?_eq_some_iff.mp hi).1
        have gj : j < (y :: ys).length := by rw [← vd.length]; exact (List.getElem?_eq_some_iff.mp hj).1
        have ei : (y :: ys)[i]? = some ((y :: ys).getD i y) := by rw [List.getD_eq_getElem?_getD, List.getElem?_eq_getElem gi]; rfl
        have ej : (y :: ys)[j]? = some ((y :: ys).getD j y) := by rw [List.getD_eq_getElem?_getD, List.getElem?_eq_getElem gj]; rfl
        obtain ⟨c, hc⟩ := hp' _ (List.mem_of_getElem? ei) _ (List.mem_of_getElem? ej)
        refine ltAt_of DEEP _ _ c vi vj (Vd.keep hk' _ _ (vd.get ei hi)) (Vd.keep hk' _ _ (vd.get ej hj)) hc X.A.in1 (by show X.A.units + 1 + DEEP < cLine; omega) _ _ _ _ ?_
        have hq' : Q' (.bool (rowB (enc ((y :: ys).getD i y)) (enc ((y :: ys).getD j y)))) s' := hq
        rw [ltDn_row hc] at hq'
        exact hq'
      · obtain ⟨h', tk, rfl, hk'⟩ := moved_kept m
        have ab := PySem.W.argBest_fold (fun a b : D => rowB (enc a) (enc b)) y y ys ys.length (Nat.le_refl _)
        have en : its.length - 1 = ys.length := by omega
        rw [en] at hP
        have gk := List.getElem?_eq_some_iff.mp hP
        have el' : (y :: ys)[argBest (fun i j => rowB (enc ((y :: ys).getD i y)) (enc ((y :: ys).getD j y))) ys.length]? = some (minL y ys) := by
          have h2 := ab.2
          rw [List.take_length] at h2
          rw [show minL y ys = ys.foldl (fun a z => if rowB (enc z) (enc a) then z else a) y from rfl, ← h2, List.getD_eq_getElem?_getD]
          have : argBest (fun i j => rowB (enc ((y :: ys).getD i y)) (enc ((y :: ys).getD j y))) ys.length < (y :: ys).length := by
            have := ab.1
            simp only [List.length_cons]
            omega
          rw [List.getElem?_eq_getElem this]; rfl
        obtain ⟨w, ew, rw'⟩ := rs.get el'
        have rel : RelV w v := by
          obtain ⟨u, eu, ru⟩ := rv.get ew
          have := eu.symm.trans hP
          cases this
          exact ru
        exact ⟨w, H, I.kept hk', rel, res.1 w rw'⟩
    · cases e
  · cases e
theorem call_maxM (hc : X.calm = true) : CallR X (.builtin "max") (rDN X.K (g1 maxD)) := cr_g1 fun pins s σ H x us Q F P d hd I r r1 e res => by
  unfold maxD at e
  split at e
  · rename_i l el
    split at e
    · rename_i n ns e2
      cases e
      obtain ⟨a, its, rfl, hl, vd⟩ := r1.its I el r
      have hlen : its.length = ns.length + 1 := by rw [vd.length, intsO_len e2]; simp
      refine call_max_walkH (iter_seqM (A := X.A.in1) (I.ok.hd hc) hl fun s₂ o St e W st hfp hw hk => ?_)
      subst e
      refine ⟨_, _, _, _, _, _, _, s.heap, fun i j => decide ((n :: ns).getD i 0 > (n :: ns).getD j 0), rfl, W.toS, st, hfp, by omega, hw, hk, ?_, fun v s' hP m => ?_⟩
      · intro i j vi vj s' Q' E' hk' hi hj hq
        obtain ⟨t, rfl⟩ := intsO_vd e2 vd i vi hi
        obtain ⟨t', rfl⟩ := intsO_vd e2 vd j vj hj
        exact PyProof.Rows.gt_int hq
      · obtain ⟨h', tk, rfl, hk'⟩ := moved_kept m
        have ab := PySem.W.argBest_fold (fun a b : Int => decide (a > b)) 0 n ns ns.length (Nat.le_refl _)
        have en : its.length - 1 = ns.length := by omega
        rw [en] at hP
        obtain ⟨t, rfl⟩ := intsO_vd e2 vd _ _ hP
        refine ⟨.int (ns.foldl max n), H, I.kept hk', ⟨t, ?_⟩, res.1 _ rv_int⟩
        have h2 := ab.2
        rw [List.take_length] at h2
        rw [h2]
        have : ∀ (l : List Int) (z : Int), l.foldl (fun a y => if decide (y > a) = true then y else a) z = l.foldl max z := by
          intro l
          induction l with
          | nil => intro z; rfl
          | cons y l ih =>
            intro z
            rw [List.foldl_cons, List.foldl_cons, ih]
            congr 1
            by_cases h : y > z
            · rw [if_pos (decide_eq_true h)]; omega
            · rw [if_neg (by simpa using h)]; omega
        rw [this]
    · cases e
  · cases e
end
end Mi
set_option Elab.async false
set_option linter.all false
set_option maxRecDepth 100000
set_option maxHeartbeats 2000000
namespace Mi
open PySem PySem.Spec PyProof.Rows L2

/-! ### defs that are called where no repr is under way -/
structure GRoom (k : Nat) (A : Around) : Prop where
  r : Room k A
  g : A.guards = some []
theorem GRoom.mono {j k : Nat} {A : Around} (h : GRoom k A) (l : j ≤ k) : GRoom j A := ⟨h.r.mono l, h.g⟩
structure FnG (Pg : Program) (w : World) (K : PySem.W.Frag) (mg : Str → Option Value) (base : Heap) (k : Nat) (f : Addr) (fd : FuncData) (ps : List Str) (sp : Sp) : Prop where
  len : ∀ vs H Q E, sp vs H Q E → vs.length = ps.length
  run : ∀ (A : Around) (outer : List Env) (s : Shared) (H : Hp) (us : List Value) (vs : List V) (Q : VK), GRoom k A → Env0 Pg w K mg base A outer s H → BindsTo s fd ⟨us, []⟩ (ps.zip us) → Vals vs us → sp vs H Q E0 →
    codeAny (model Pg w) A (.call (.ref f) ⟨us, []⟩) (CR CX0 outer Pg w H s Q E0) s
section
variable {Pg : Program} {w : World} {K : PySem.W.Frag} {mg : Str → Option Value} {base : Heap}
theorem FnG.mono {j k : Nat} {f : Addr} {fd : FuncData} {ps : List Str} {sp : Sp} (F : FnG Pg w K mg base j f fd ps sp) (h : j ≤ k) : FnG Pg w K mg base k f fd ps sp :=
  ⟨F.len, fun A outer s H us vs Q hr => F.run A outer s H us vs Q (hr.mono h)⟩
theorem fnG_of {x qual : Str} {st : Stmt} {f : Addr} {fd : FuncData} {Nm ps : List Str} {k : Nat} {sp : Sp} (Fn : Fun K x qual st f fd) (Sc : FnScope Nm ps (defScope st)) (hlen : ∀ vs H Q E, sp vs H Q E → vs.length = ps.length)
    (hb : ∀ (cdv : Value) (A : Around) (outer : List Env) (s : Shared) (H : Hp) (vs : List V) (Q : VK), GRoom k (A.deeper (envOfC qual (defScope st) s.heap.objs.size f cdv)) → sp vs H Q E0 →
      ∃ t, PSs (cxOf CX0 Pg w K mg base Nm qual (defScope st) f cdv A outer s H E0).nox (defBody st) t ∧ t { nx := fun _ H' => Q .non H', rt := Q } (L2.start Nm vs) H) :
    FnG Pg w K mg base (k + 1) f fd ps sp := by
  obtain ⟨oc, od, kV, doc, pm, an, cdv, ct, osl, rfl, lk, hcd⟩ := Fn.ex
  constructor
  · exact hlen
  intro A outer s H us vs Q hr e0 bd r q
  have inH : K.In s.heap := e0.mod.kin.keeps fun b o e => (e0.bs b o e).1
  have par : ∀ y ∈ ps.zip us, (defScope st).names.lookup y.1 = some .local ∨ ((defScope st).names.lookup y.1 = some .cell ∧ ((cellsFrom (s.heap.objs.size + 1) (defScope st).names []).lookup y.1).isSome = true) := by
    rintro ⟨y, u⟩ m
    have := Sc.par y (List.of_mem_zip m).1
    exact this.imp id fun z => ⟨z, PySem.W.cellsFrom_some _ _ _ (.inl z)⟩
  refine codeAny_call_function hr.r.depth (inH _ _ lk) rfl Sc.co Sc.gen rfl (PySem.W.codeRec_of inH hcd) (bd _ _ _ _ ?_)
  refine wpAny_newFunctionEnv_cells Sc.kind par fun env he s1 x => ?_
  cases he
  have nl : s.heap.NoLimit := e0.mod.nolimit.keeps fun b o e => (e0.bs b o e).1
  refine ⟨nl.keeps x.toInCall.keep, codeAny_func ?_⟩
  obtain ⟨t, ht, hq⟩ := hb cdv A outer s H vs Q ⟨hr.r.deeper _, hr.g⟩ q
  have I : Inv (cxOf CX0 Pg w K mg base Nm qual (defScope st) f cdv A outer s H E0) [] (L2.start Nm vs) H s1 := inv_start Sc hr.r.hd e0 (hlen _ _ _ _ q) r x
  refine wpAny_mono (ht.nox.run [] s1 (L2.start Nm vs) H _ I hq) (fun fl s' hs => ?_) fun _ _ h => h
  cases fl
  case ret u =>
    obtain ⟨v, σ', H', J, rv, q'⟩ := hs
    exact ⟨v, H', J.os, J.bare, J.base, J.hok, rv, q'⟩
  case next =>
    obtain ⟨σ', H', J, q'⟩ := hs
    exact ⟨.non, H', J.os, J.bare, J.base, J.hok, rfl, q'⟩
  case brk => exact hs.choose_spec.choose_spec.2.elim
  case cont => exact hs.choose_spec.choose_spec.2.elim
theorem fn_okG {x qual : Str} {st : Stmt} {f : Addr} {fd : FuncData} {Nm ps : List Str} {k : Nat} {body : MS} (Fn : Fun K x qual st f fd) (Sc : FnScope Nm ps (defScope st))
    (hb : ∀ (cdv : Value) (A : Around) (outer : List Env) (s : Shared) (H : Hp) (Z : Fr), GRoom k (A.deeper (envOfC qual (defScope st) s.heap.objs.size f cdv)) →
      PSs (cxOf CX0 Pg w K mg base Nm qual (defScope st) f cdv A outer s H E0).nox (defBody st) (sM K Z body)) :
    FnG Pg w K mg base (k + 1) f fd ps (spM K (mkFn Nm.length ps.length body) ps.length) := by
  refine fnG_of Fn Sc (fun vs H Q E h => ?_) (fun cdv A outer s H vs Q hr h => ?_)
  · obtain ⟨N, F, P, ds, hl, _⟩ := h
    exact hl
  · obtain ⟨Z, q⟩ := mkFn_ok h
    exact ⟨_, hb cdv A outer s H Z hr, q⟩
end
section
variable {X : Cx} {k : Nat} {f : Addr} {fd : FuncData} {ps : List Str} {sp : Sp} {x : Str} {p pos : Pos} {e : Expr} {es : List Expr} {t : TA}
theorem pe_callG (F : FnG X.prog X.w X.K X.mg X.base k f fd ps sp) (hr : GRoom k X.A) (hg : Gl X x) (hm : X.mg x = some (.ref f)) (hk : PySem.W.keepIn X.K (.ref f) = true) (hb : Binds X.K fd ps [])
    (ha : PA X (e :: es) t) (hdb : (x == ("__debug__" : Str)) = false := by decide) (he : starEach (e :: es) X.env = (false, eval e X.env) :: starEach es X.env := by rfl) (hpl : (backTo pos (starEach es X.env)).any (·.1) = false := by rfl) :
    PE X (.Call (.Name x p) (e :: es) [] pos) (tCall sp [] E0 t) := by
  constructor
  intro pins s σ H Q I h
  refine wpAny_Call_Name_kw (ld_glob I hg hm ?_ hdb)
  refine PySem.W.callWith_K (h₀ := X.base) I.ok.mod.kin hk (thn (ha.run pos pins s σ H _ I h) fun us s1 ⟨vs, H1, I1, r, q⟩ => ⟨I1.kIn, ?_⟩) he hpl
  have q : sp (vs ++ []) H1 Q E0 := q
  rw [List.append_nil] at q
  have hl : us.length = ps.length := by rw [← r.length]; exact F.len _ _ _ _ q
  have bd := hb s1 us I1.kIn (by rw [List.append_nil]; exact hl)
  rw [List.append_nil] at bd
  refine wpAny_call (codeAny_mono (F.run X.A X.stack s1 H1 us vs Q hr I1.env0 bd r q) fun res s' hq => ?_)
  match res, hq with
  | .ok (.ret u), hq => exact I1.after hq
  | .ok .next, hq => exact hq.elim
  | .ok .brk, hq => exact hq.elim
  | .ok .cont, hq => exact hq.elim
  | .error e, hq => exact hq.elim
end
end Mi
set_option Elab.async false
set_option linter.all false
set_option maxRecDepth 100000
set_option maxHeartbeats 2000000
namespace Mi
open PySem PySem.Spec PyProof.Rows L2

/-! ### lists and tuples walked -/
def SqB (b : Bool) (K : PySem.W.Frag) (H : Hp) (a : Addr) (xs : List V) : Prop := if b then SqL K H a xs else SqT K H a xs
def AtB (b : Bool) (h : Heap) (a : Addr) (its : List Value) : Prop := if b then h.IsList a its.toArray else h.IsTuple a its.toArray
def ItB (b : Bool) (h : Heap) (it a : Addr) (i : Nat) : Prop := if b then h.IsListIter it a i else h.IsTupleIter it a i
def itO (b : Bool) (a : Addr) : Obj := if b then { cls := .type "list_iterator", data := .fields #[.ref a, .int 0 0] } else { cls := .type "tuple_iterator", data := .fields #[.ref a, .int 0 0] }
theorem ItB.at {b : Bool} {h h' : Heap} {it a : Addr} {i : Nat} (q : ItB b h it a i) (k : ∀ o, h.get? it = some o → h'.get? it = some o) : ItB b h' it a i := by
  cases b with
  | true => exact (show h.IsListIter it a i from q).at k
  | false => exact (show h.IsTupleIter it a i from q).at k
theorem ItB.obj {b : Bool} {h : Heap} {it a : Addr} {i : Nat} (q : ItB b h it a i) : ∃ o, h.get? it = some o ∧ ∀ v, o.data ≠ .cell v := by
  cases b with
  | true => obtain ⟨o, e, _, d⟩ := (show h.IsListIter it a i from q); exact ⟨o, e, fun v z => by rw [d] at z; cases z⟩
  | false => obtain ⟨o, e, _, d⟩ := (show h.IsTupleIter it a i from q); exact ⟨o, e, fun v z => by rw [d] at z; cases z⟩
theorem ItB.lt {b : Bool} {h : Heap} {it a : Addr} {i : Nat} (q : ItB b h it a i) : it < h.objs.size := let ⟨_, e, _⟩ := q.obj; Heap.lt_size e
theorem ItB.new {b : Bool} {h : Heap} {it a : Addr} (e : h.get? it = some (itO b a)) : ItB b h it a 0 := by
  cases b with
  | true => exact ⟨_, e, rfl, rfl⟩
  | false => exact ⟨_, e, rfl, rfl⟩
theorem AtB.keep {b : Bool} {h h' : Heap} {a : Addr} {its : List Value} (q : AtB b h a its) (k : ∀ o, h.get? a = some o → h'.get? a = some o) : AtB b h' a its := by
  cases b with
  | true => exact (show h.IsList a its.toArray from q).at k
  | false => exact (show h.IsTuple a its.toArray from q).at k
theorem AtB.lt {b : Bool} {h : Heap} {a : Addr} {its : List Value} (q : AtB b h a its) : a < h.objs.size := by
  cases b with
  | true => obtain ⟨_, e, _⟩ := (show h.IsList a its.toArray from q); exact Heap.lt_size e
  | false => obtain ⟨_, e, _⟩ := (show h.IsTuple a its.toArray from q); exact Heap.lt_size e
theorem AtB.begins (b : Bool) (a : Addr) (its : List Value) : Begins (.ref a) (itO b a) fun h => AtB b h a its := by
  cases b with
  | true => exact begins_list a its.toArray
  | false => exact begins_tuple a its.toArray
theorem drawsB {prog : Program} {w : World} {A : Around} (hh : A.handled = none) (b : Bool) (it a : Addr) (hne : a ≠ it) (its : List Value) :
    Draws prog w A it [it, a] its.length (fun i v => its[i]? = some v) (fun i h => ItB b h it a i ∧ AtB b h a its) := by
  cases b with
  | true =>
    have := Draws.list (prog := prog) (w := w) (A := A) hh it a hne its.toArray
    simp only [List.size_toArray, List.getElem?_toArray] at this
    exact this
  | false =>
    have := Draws.tuple (prog := prog) (w := w) (A := A) hh it a hne its.toArray
    simp only [List.size_toArray, List.getElem?_toArray] at this
    exact this
section
variable {X : Cx} {pins : List (Addr × Obj)} {σ : L2.St} {H : Hp} {s : Shared}
theorem SqB.at {b : Bool} {a : Addr} {xs : List V} (I : Inv X pins σ H s) (q : SqB b X.K H a xs) : ∃ its, Vals xs its ∧ AtB b s.heap a its ∧ xs.length ≤ sizeLine := by
  cases b with
  | true => obtain ⟨its, rv, p, hz⟩ := I.list (show SqL X.K H a xs from q); exact ⟨its, rv, p.isList, hz⟩
  | false => obtain ⟨its, rv, p, hz⟩ := I.tuple (show SqT X.K H a xs from q); exact ⟨its, rv, p, hz⟩
theorem SqB.inj {b : Bool} {a : Addr} {xs ys : List V} (I : Inv X pins σ H s) (q : SqB b X.K H a xs) (q' : SqB b X.K H a ys) : xs = ys := by
  cases b with
  | true => exact I.list_inj q q'
  | false => exact I.tuple_inj q q'
end
/-! ### enumerate -/
def IteB (b : Bool) (K : PySem.W.Frag) (a : Addr) : It :=
  ⟨fun i H => ∃ (xs : List V) (x : V), SqB b K H a xs ∧ xs[i]? = some x, fun i H v H' => ∃ T x, v = .ref T ∧ H T = none ∧ H' = L2.upd H T (.tup [.int (i : Nat), x]) ∧ ∀ xs, SqB b K H a xs → xs[i]? = some x, fun i H => ∃ xs : List V, SqB b K H a xs ∧ xs.length = i⟩
theorem turn_enumB {P : Program} {w : World} {K : PySem.W.Frag} {elts : List Expr} {kk : Nat} {tpos : Pos} (b : Bool) (a e it : Addr) (hai : a ≠ it) (hea : e ≠ a) :
    Turn P w K (.Tuple elts kk tpos) (IteB b K a) [e, it] e (fun i h => (∃ old, IsEnum h e it ((i : Nat) : Int) old) ∧ ItB b h it a i ∧ e ≠ it) where
  mem := by simp
  obj := fun i h st c hc => by
    obtain ⟨⟨old, he⟩, hi, _⟩ := st
    have e' : c = e ∨ c = it := by simpa using hc
    rcases e' with rfl | rfl
    · exact ⟨_, he, fun v q => nomatch q⟩
    · exact hi.obj
  keep := fun i h h' st k => let ⟨⟨old, he⟩, hi, hne⟩ := st; ⟨⟨old, k e (by simp) _ he⟩, hi.at fun o q => k it (by simp) o q, hne⟩
  item := by
    intro X hP hw hK hc i pins s σ H E I hf st hg
    subst hP hw hK
    obtain ⟨⟨old, he⟩, hit, hne⟩ := st
    obtain ⟨xs, x, hq, hx⟩ := hg
    obtain ⟨its, rv, p, hz⟩ := hq.at I
    obtain ⟨u, hu, ru⟩ := rv.get hx
    have hel : e < s.heap.objs.size := Heap.lt_size he
    refine wpAny_pyNext_enum_itemD (drawsB (A := X.A.in1) (I.ok.hd hc) b it a hai its) he ⟨hit, p⟩ (List.getElem?_eq_some_iff.mp hu).1 hne (by simp [hne, hea]) fun u' h' tk hu' ho hst hT hsz hk => ?_
    have eu : u' = u := Option.some.inj (hu'.symm.trans hu)
    subst eu
    refine ⟨_, rfl, wpAny_letOwnedTupleGo_enum (s := { s with heap := h', toks := tk + 1 }) ho fun h'' he' sb => ?_⟩
    have hT2 : h''.get? s.heap.objs.size = some { cls := .type "tuple", data := .seq #[.int i tk, u'] } := (sb.2 _ (Nat.ne_of_gt hel)).trans hT
    have new : ObjOk X.prog X.w (L2.upd H s.heap.objs.size (.tup [.int (i : Nat), x])) h'' s.heap.objs.size (.tup [.int (i : Nat), x]) :=
      ⟨by show 2 ≤ sizeLine; decide, [.int i tk, u'], .cons ⟨_, rfl⟩ (.cons ru .nil), ⟨_, hT2, rfl, _, rfl⟩⟩
    have I1 : Inv X pins σ (L2.upd H s.heap.objs.size (.tup [.int (i : Nat), x])) { s with heap := h'', toks := tk + 1 } :=
      I.turnedNew (ch := [e, it]) (fun c ob hb q => (sb.2 c (fun z => hb (by simp [z]))).trans (hk c ob (fun z => hb (by simp [z])) (fun z => hb (by simp [z])) q)) hf (Nat.le_refl _) new
    refine ⟨.ref s.heap.objs.size, _, I1, rfl, ⟨_, x, rfl, I.hok.fresh (Nat.le_refl _), rfl, fun ys hy => by rw [hy.inj I hq]; exact hx⟩, ⟨⟨u', ?_⟩, hst.1.at fun o q => (sb.2 it (Ne.symm hne)).trans q, hne⟩, fun c hcm => ?_⟩
    · have e1 : ((i + 1 : Nat) : Int) = (i : Int) + 1 := by omega
      rw [e1]; exact he'
    · have hlt : c < s.heap.objs.size := by
        have e' : c = e ∨ c = it := by simpa using hcm
        rcases e' with rfl | rfl
        · exact hel
        · exact hit.lt
      rw [upd_ne (Nat.ne_of_lt hlt)]
      exact (hf c hcm).1
  done := by
    intro X hP hw hK hc i pins s σ H E I hf st hg
    subst hP hw hK
    obtain ⟨⟨old, he⟩, hit, hne⟩ := st
    obtain ⟨xs, hq, hx⟩ := hg
    obtain ⟨its, rv, p, hz⟩ := hq.at I
    obtain ⟨f0, f1, f2, f3, f4, f5⟩ := hf it (by simp)
    have hl : its.length = i := by rw [← rv.length, hx]
    refine wpAny_pyNext_enum_endD (drawsB (A := X.A.in1) (I.ok.hd hc) b it a hai its) he ⟨hl ▸ hit, p⟩ fun h' eb => ⟨rfl, I.turned (t' := s.toks) (fun c o hb q => eb c o hb q) f0 f1 f3 f4 f5⟩
  self := fun A i s Q E st h => let ⟨⟨_, he⟩, _⟩ := st; wpAny_pyIter_enum he h
theorem meets_enumT (l : Addr) (items : Array Value) :
    Meets (Builtin.«enumerate.__new__» ⟨[.type "enumerate", .ref l], []⟩) (fun _ R s => s.heap.IsTuple l items ∧
      R (.ok (.ret (.ref (s.heap.push { cls := .type "tuple_iterator", data := .fields #[.ref l, .int 0 0] }).objs.size)))
        { s with heap := (s.heap.push { cls := .type "tuple_iterator", data := .fields #[.ref l, .int 0 0] }).push { cls := .type "enumerate", data := .fields #[.none, .bool false, .ref s.heap.objs.size, rawInt 0, .none, .none] } }) :=
  .of_wp fun prog w A R s h => by
    obtain ⟨hp, g, d, tk, os⟩ := s
    obtain ⟨hl, h⟩ := h
    have hL : Heap.IsTuple (Shared.heap ⟨hp, g, d, tk, os⟩) l items := hl
    have hsub := sub_enumerate
    wp_walk
    refine wpAny_stack_any fun st => wpAny_pure ?_
    split
    · rename_i c _ _ _ _ _
      cases (c == Value.type "enumerate")
      · wp_walk using wpAny_pyIter_tuple hL
        exact ⟨_, rfl, h⟩
      · wp_walk using wpAny_pyIter_tuple hL
        exact ⟨_, rfl, h⟩
    · wp_walk using wpAny_pyIter_tuple hL
      exact ⟨_, rfl, h⟩
theorem call_enumB {prog : Program} {w : World} {A : Around} {E : Value → Shared → Prop} {s : Shared} {b : Bool} {l : Addr} {its : List Value} {Q : Value → Shared → Prop} (hL : AtB b s.heap l its)
    (h : ∀ h', IsEnum h' (s.heap.objs.size + 1) s.heap.objs.size 0 .none → ItB b h' s.heap.objs.size l 0 → (∀ b o, s.heap.get? b = some o → h'.get? b = some o) → Q (.ref (s.heap.objs.size + 1)) { s with heap := h' }) :
    wpAny (model prog w) A (call (.type "enumerate") [.ref l]) Q E s := by
  cases b with
  | true => exact call_enumerate_list hL fun h' he hi _ hk => h h' he hi hk
  | false =>
    have hL' : s.heap.IsTuple l its.toArray := hL
    refine callType_new F.called_enumerate (by decide) (F.typeCall_enumerate_1 _) (F.newCall_enumerate_1 _) (fun obj => F.args_object_init_2 obj _) F.entry_enumerate_new (meets_enumT l its.toArray) ⟨hL', ?_⟩
    have hz : (s.heap.push { cls := .type "tuple_iterator", data := .fields #[.ref l, .int 0 0] }).objs.size = s.heap.objs.size + 1 := Heap.size_push ..
    show _ ∧ _
    rw [hz]
    have he : IsEnum ((s.heap.push { cls := .type "tuple_iterator", data := .fields #[.ref l, .int 0 0] }).push { cls := .type "enumerate", data := .fields #[.none, .bool false, .ref s.heap.objs.size, rawInt 0, .none, .none] }) (s.heap.objs.size + 1) s.heap.objs.size 0 .none := by
      have := Heap.get?_push_size (s.heap.push { cls := .type "tuple_iterator", data := .fields #[.ref l, .int 0 0] }) (o := { cls := .type "enumerate", data := .fields #[.none, .bool false, .ref s.heap.objs.size, rawInt 0, .none, .none] }) rfl
      rw [hz] at this; exact this
    exact ⟨⟨_, he, rfl⟩, h _ he ⟨_, Heap.get?_push_of_some _ (Heap.get?_push_size _ rfl), rfl, rfl⟩ fun b o x => Heap.get?_push_of_some _ (Heap.get?_push_of_some _ x)⟩
/-! ### zip -/
def ItzB (b c : Bool) (K : PySem.W.Frag) (a a' : Addr) : It :=
  ⟨fun i H => ∃ (xs ys : List V) (x y : V), SqB b K H a xs ∧ SqB c K H a' ys ∧ xs[i]? = some x ∧ ys[i]? = some y,
    fun i H v H' => ∃ T x y, v = .ref T ∧ H T = none ∧ H' = L2.upd H T (.tup [x, y]) ∧ (∀ xs, SqB b K H a xs → xs[i]? = some x) ∧ ∀ ys, SqB c K H a' ys → ys[i]? = some y,
    fun i H => ∃ xs ys : List V, SqB b K H a xs ∧ SqB c K H a' ys ∧ i = min xs.length ys.length⟩
theorem turn_zipB {P : Program} {w : World} {K : PySem.W.Frag} {elts : List Expr} {kk : Nat} {tpos : Pos} {b c : Bool} {a a' z TI TO i1 i2 : Addr} (D : ZipSep2 z TI TO i1 i2 [i1, a] [i2, a']) (n1 : a ≠ i1) (n2 : a' ≠ i2) :
    Turn P w K (.Tuple elts kk tpos) (ItzB b c K a a') [z, TI, TO, i1, i2] z (fun i h => IsZip h z TI TO .none ∧ IsTupOf2 h TI (.ref i1) (.ref i2) ∧ (∃ x y, IsTupOf2 h TO x y) ∧ ItB b h i1 a i ∧ ItB c h i2 a' i) where
  mem := by simp
  obj := fun i h st q hq => by
    obtain ⟨hz, hTI, ⟨x, y, hTO⟩, h1, h2⟩ := st
    have e' : q = z ∨ q = TI ∨ q = TO ∨ q = i1 ∨ q = i2 := by simpa using hq
    rcases e' with rfl | rfl | rfl | rfl | rfl
    · exact ⟨_, hz, fun v q => nomatch q⟩
    · exact ⟨_, hTI, fun v q => nomatch q⟩
    · exact ⟨_, hTO, fun v q => nomatch q⟩
    · exact h1.obj
    · exact h2.obj
  keep := fun i h h' st k => by
    obtain ⟨hz, hTI, ⟨x, y, hTO⟩, h1, h2⟩ := st
    exact ⟨k z (by simp) _ hz, k TI (by simp) _ hTI, ⟨x, y, k TO (by simp) _ hTO⟩, h1.at fun o q => k i1 (by simp) o q, h2.at fun o q => k i2 (by simp) o q⟩
  item := by
    intro X hP hw hK hc i pins s σ H E I hf st hg
    subst hP hw hK
    obtain ⟨hz, hTI, ⟨x0, y0, hTO⟩, h1, h2⟩ := st
    obtain ⟨xs, ys, x, y, hqx, hqy, hx, hy⟩ := hg
    obtain ⟨its, rv, p, _⟩ := hqx.at I
    obtain ⟨its2, rv2, p2, _⟩ := hqy.at I
    obtain ⟨u, hu, ru⟩ := rv.get hx
    obtain ⟨u2, hu2, ru2⟩ := rv2.get hy
    have hzl : z < s.heap.objs.size := Heap.lt_size hz
    refine wpAny_pyNext_zipD2_item D (drawsB (A := X.A.in1) (I.ok.hd hc) b i1 a n1 its) (drawsB (A := X.A.in1) (I.ok.hd hc) c i2 a' n2 its2) hz hTI hTO ⟨h1, p⟩ ⟨h2, p2⟩ (List.getElem?_eq_some_iff.mp hu).1 (List.getElem?_eq_some_iff.mp hu2).1 fun w1 w2 h' tk e1 e2 z' TO' st1 st2 hT hsz hk => ?_
    have e1' : w1 = u := Option.some.inj (e1.symm.trans hu)
    have e2' : w2 = u2 := Option.some.inj (e2.symm.trans hu2)
    subst e1' e2'
    refine ⟨_, rfl, wpAny_letOwnedTupleGo_zip (s := { s with heap := h', toks := tk }) z' fun h'' z'' sb => ?_⟩
    have hT2 : h''.get? s.heap.objs.size = some { cls := .type "tuple", data := .seq #[w1, w2] } := (sb.2 _ (Nat.ne_of_gt hzl)).trans hT
    have new : ObjOk X.prog X.w (L2.upd H s.heap.objs.size (.tup [x, y])) h'' s.heap.objs.size (.tup [x, y]) :=
      ⟨by show 2 ≤ sizeLine; decide, [w1, w2], .cons ru (.cons ru2 .nil), ⟨_, hT2, rfl, _, rfl⟩⟩
    have I1 : Inv X pins σ (L2.upd H s.heap.objs.size (.tup [x, y])) { s with heap := h'', toks := tk } :=
      I.turnedNew (ch := [z, TI, TO, i1, i2]) (fun q o hb e => (sb.2 q (fun q' => hb (by simp [q']))).trans (hk q o (fun q' => hb (by simp [q'])) (fun q' => hb (by simp [q'])) (fun q' => hb (by simp [q'])) (fun q' => hb (by simp [q'])) e)) hf (Nat.le_refl _) new
    have iz1 : i1 ≠ z := fun e => D.zf1 (by simp [e])
    have iz2 : i2 ≠ z := fun e => D.zf2 (by simp [e])
    refine ⟨.ref s.heap.objs.size, _, I1, rfl, ⟨_, x, y, rfl, I.hok.fresh (Nat.le_refl _), rfl, fun l hl => by rw [hl.inj I hqx]; exact hx, fun l hl => by rw [hl.inj I hqy]; exact hy⟩, ⟨z'', ?_, ⟨w1, w2, ?_⟩, ?_, ?_⟩, fun q hqm => ?_⟩
    · exact (sb.2 _ D.TIz).trans (hk _ _ D.TIz D.TITO D.TIi1 D.TIi2 hTI)
    · exact (sb.2 _ D.TOz).trans TO'
    · exact st1.1.at fun o q => (sb.2 _ iz1).trans q
    · exact st2.1.at fun o q => (sb.2 _ iz2).trans q
    · have hlt : q < s.heap.objs.size := by
        have e' : q = z ∨ q = TI ∨ q = TO ∨ q = i1 ∨ q = i2 := by simpa using hqm
        rcases e' with rfl | rfl | rfl | rfl | rfl
        · exact hzl
        · exact Heap.lt_size hTI
        · exact Heap.lt_size hTO
        · exact h1.lt
        · exact h2.lt
      rw [upd_ne (Nat.ne_of_lt hlt)]
      exact (hf q hqm).1
  done := by
    intro X hP hw hK hc i pins s σ H E I hf st hg
    subst hP hw hK
    obtain ⟨hz, hTI, ⟨x0, y0, hTO⟩, h1, h2⟩ := st
    obtain ⟨xs, ys, hqx, hqy, hend⟩ := hg
    obtain ⟨its, rv, p, _⟩ := hqx.at I
    obtain ⟨its2, rv2, p2, _⟩ := hqy.at I
    have l1 := rv.length
    have l2 := rv2.length
    exact wpAny_pyNext_zipD2_end D (drawsB (A := X.A.in1) (I.ok.hd hc) b i1 a n1 its) (drawsB (A := X.A.in1) (I.ok.hd hc) c i2 a' n2 its2) hz hTI hTO ⟨h1, p⟩ ⟨h2, p2⟩ (by omega) (by omega) (by omega) fun h' tk hk => ⟨rfl, I.turnedL (t' := tk) (ch := [z, TI, TO, i1, i2]) (fun q o hb e =>
      hk q o (fun q' => hb (by simp [q'])) (fun q' => hb (by simp [q'])) (fun q' => hb (by simp [q'])) (fun q' => hb (by simp [q'])) e) hf⟩
  self := fun A i s Q E st h => wpAny_pyIter_zip st.1 h
end Mi
set_option Elab.async false
set_option linter.all false
set_option maxRecDepth 100000
set_option maxHeartbeats 2000000
namespace Mi
open PySem PySem.Spec PyProof.Rows L2

section
variable {K : PySem.W.Frag} {Z : Fr} {N N' N'' : Nat} {F P F' P' F'' P'' : Addr → Prop} {env env' env'' e0 : Ev} {σ : L2.St} {H H' H'' H0 : Hp} {F0 P0 : Addr → Prop}
/-! ### what is walked -/
def walkD : D → Option (List D)
  | .tup l => some l
  | .lst l => some l
  | .scr ns => some (ns.map .int)
  | _ => none
/-- a frozen one stays as it is -/
def Stays (b : Bool) (K : PySem.W.Frag) (F P : Addr → Prop) (H : Hp) (a : Addr) (xs : List V) : Prop := ∀ F' P' H', Mon K F P H F' P' H' → SqB b K H' a xs
theorem RV.walk {d : D} {l : List D} {v : V} (r : RV K F P H d v) (e : walkD d = some l) : ∃ a b xs, v = .ref a ∧ RVs K F P H l xs ∧ Stays b K F P H a xs := by
  cases d with
  | tup l' =>
    cases e
    simp only [RV] at r
    obtain ⟨a, vs, e, q, rs⟩ := r
    exact ⟨a, false, vs, e, rs, fun F' P' H' m => .of (m.tup a vs q)⟩
  | lst l' =>
    cases e
    simp only [RV] at r
    obtain ⟨a, vs, e, f, q, rs⟩ := r
    exact ⟨a, true, vs, e, rs, fun F' P' H' m => .of (m.lst a vs f q)⟩
  | scr ns =>
    cases e
    simp only [RV] at r
    obtain ⟨a, e, q⟩ := r
    refine ⟨a, true, ns.map V.int, e, RVs.ints, fun F' P' H' m => ?_⟩
    rcases q with ⟨o, q⟩ | q
    · exact .inl (.inr ⟨o, m.frz a o _ q⟩)
    · exact .inr q
  | _ => cases e
theorem Stays.at {b : Bool} {a : Addr} {xs : List V} (h : Stays b K F P H a xs) : SqB b K H a xs := h F P H Mon.refl
def RWalk (K : PySem.W.Frag) (x : V) (H : Hp) (a : Addr) (b : Bool) (xs : List V) : Prop := x = .ref a ∧ SqB b K H a xs
def iSeq (m : M) : MI := fun env => (m env).bind fun r => match fz r.2 r.1 with
  | some (d, env') => match walkD d with
    | some l => .ret (l, env')
    | none => .fail
  | none => .fail
theorem yield_seq {b : Bool} {a : Addr} {l : List D} {xs : List V} (r : RVs K F P H l xs) (st : Stays b K F P H a xs) : YieldsD K (if b then Itl K a else Itt K a) l F P H := by
  intro F' P' H' m
  have sq := st F' P' H' m
  have r' := r.mono m
  cases b with
  | true =>
    refine ⟨⟨xs, sq, by rw [r.length]; exact Nat.le_refl _⟩, fun i d e => ?_⟩
    obtain ⟨x, ex, rx⟩ := r'.get e
    refine ⟨⟨xs, x, sq, ex⟩, fun y H'' ⟨eH, f⟩ => .inl ⟨eH, ?_⟩⟩
    have := (f xs sq).symm.trans ex
    cases this
    exact rx
  | false =>
    refine ⟨⟨xs, sq, by rw [r.length]; exact Nat.le_refl _⟩, fun i d e => ?_⟩
    obtain ⟨x, ex, rx⟩ := r'.get e
    refine ⟨⟨xs, x, sq, ex⟩, fun y H'' ⟨eH, f⟩ => .inl ⟨eH, ?_⟩⟩
    have := (f xs sq).symm.trans ex
    cases this
    exact rx
theorem pi_seqM {X : Cx} {tg l : Expr} {m : M} (hK : X.K = K) (hl : PE X l (tM K Z m)) : PI X tg l (tI K Z (iSeq m)) := by
  subst hK
  constructor
  intro pins s σ H R I ⟨N, F, P, env, S, h⟩
  refine thn (hl.run pins s σ H (fun x H1 => ∃ a b xs, x = .ref a ∧ SqB b X.K H1 a xs ∧ (xs.length ≤ sizeLine → R (if b then Itl X.K a else Itt X.K a) H1)) I ?_) fun v s1 ⟨x, H1, I1, r1, q1⟩ => ?_
  · refine ⟨N, F, P, env, S, T.ok_mono (fun N1 r1 q1 => ?_) (T.ok_bind h)⟩
    intro v H1 F1 P1 E1 S1 R1 Y1
    split at q1
    · rename_i d env1 e1
      obtain ⟨F2, E2, S2, rv⟩ := R1.freeze E1 S1 Y1 e1
      split at q1
      · rename_i ds e2
        obtain ⟨a, b, xs, e, rs, st⟩ := rv.walk e2
        exact ⟨a, b, xs, e, st.at, fun hz => q1 _ H1 F2 P1 E2 S2 (yield_seq rs st) (by rw [← rs.length]; exact hz)⟩
      · exact q1.elim
    · exact q1.elim
  · obtain ⟨a, b, xs, rfl, sq, q⟩ := q1
    obtain rfl : v = .ref a := r1
    obtain ⟨its, rv, p, hz⟩ := sq.at I1
    have q := q hz
    cases b with
    | true =>
      refine wpAny_pyIter_list (show s1.heap.IsList a its.toArray from p) ?_
      refine ⟨s1.heap.objs.size, [s1.heap.objs.size], _, _, H1, rfl, I1.kept (t' := s1.toks) fun b o e => Heap.get?_push_of_some _ e, turn_list a _, ⟨_, Heap.get?_push_size _ rfl, rfl, rfl⟩, fun b hb => ?_, q⟩
      have e : b = s1.heap.objs.size := by simpa using hb
      subst e
      exact I1.fpOk (Nat.le_refl _) (I1.hok.fresh (Nat.le_refl _))
    | false =>
      refine wpAny_pyIter_tuple (show s1.heap.IsTuple a its.toArray from p) ?_
      refine ⟨s1.heap.objs.size, [s1.heap.objs.size], _, _, H1, rfl, I1.kept (t' := s1.toks) fun b o e => Heap.get?_push_of_some _ e, turn_tuple a _, ⟨_, Heap.get?_push_size _ rfl, rfl, rfl⟩, fun b hb => ?_, q⟩
      have e : b = s1.heap.objs.size := by simpa using hb
      subst e
      exact I1.fpOk (Nat.le_refl _) (I1.hok.fresh (Nat.le_refl _))
/-! ### ranges -/
def rgD (a b : Int) : List D := (List.range (b - a).toNat).map fun i => .int (a + (i : Nat))
def rgOk (a b : Int) : Bool := decide (-4611686018427387904 ≤ a ∧ a < 4611686018427387904 ∧ -4611686018427387904 ≤ b ∧ b < 4611686018427387904 ∧ (b - a).toNat ≤ 16777216)
def rg2 (l : List D) : Option (Int × Int) := match l with
  | [.int j] => if rgOk 0 j then some (0, j) else none
  | [.int i, .int j] => if rgOk i j then some (i, j) else none
  | _ => none
def iRng (ms : MH) : MI := fun env => (ms env).bind fun r => match rss r.2 r.1 with
  | some ds => match rg2 ds with
    | some (a, b) => .ret (rgD a b, r.2)
    | none => .fail
  | none => .fail
theorem rgOk_of {a b : Int} (h : rgOk a b = true) : RgOk a b := by
  have := of_decide_eq_true h
  exact ⟨by omega, by omega, by omega, by omega, by omega⟩
theorem yield_rng {a b : Int} {n : Nat} (e : n = (b - a).toNat) : YieldsD K (Itr a n) (rgD a b) F P H := by
  intro F' P' H' m
  subst e
  refine ⟨by show (b - a).toNat ≤ (rgD a b).length; unfold rgD; simp, fun i d e => ?_⟩
  unfold rgD at e
  rw [List.getElem?_map] at e
  have hi : i < (b - a).toNat := by
    apply Classical.byContradiction
    intro hn
    rw [List.getElem?_eq_none (by simpa using hn)] at e
    cases e
  rw [List.getElem?_range hi] at e
  have e' : D.int (a + (i : Nat)) = d := Option.some.inj e
  refine ⟨hi, fun x H'' ⟨eH, ex⟩ => .inl ⟨eH, ?_⟩⟩
  rw [← e', ex]
  simp only [RV]
theorem rgD_len (a b : Int) : (rgD a b).length = (b - a).toNat := by unfold rgD; simp
theorem rngLen {a b : Int} (h : rgOk a b = true) : (rgD a b).length ≤ sizeLine := by
  rw [rgD_len, sizeLine_eq]
  have := of_decide_eq_true h
  omega
theorem rg2_vs {ds : List D} {a b : Int} {vs : List V} (e : rg2 ds = some (a, b)) (r : RCs K F P H ds vs) : rgOk a b = true ∧ ((a = 0 ∧ vs = [.int b]) ∨ vs = [.int a, .int b]) := by
  unfold rg2 at e
  split at e
  · split at e
    · rename_i h
      cases e
      obtain ⟨v, rfl, r1⟩ := r.one
      rw [r1.int]
      exact ⟨h, .inl ⟨rfl, rfl⟩⟩
    · cases e
  · split at e
    · rename_i h
      cases e
      obtain ⟨v, u, rfl, r1, r2⟩ := r.two
      rw [r1.int, r2.int]
      exact ⟨h, .inr rfl⟩
    · cases e
  · cases e
def rng1 (l : List D) : Bool := match l with
  | [_] => true
  | _ => false
theorem pi_rng1M {X : Cx} {tg a : Expr} {ms : MH} {p pos : Pos} (hK : X.K = K) (hg : Gl X "range") (hm : X.mg "range" = none) (ha : PA X [a] (tH K Z ms)) (hn : HLen 1 ms) (hs : starEach [a] X.env = [(false, eval a X.env)] := by rfl) : PI X tg (.Call (.Name "range" p) [a] [] pos) (tI K Z (iRng ms)) := by
  subst hK
  refine PI.imp (pi_range1 (tg := tg) hg hm ha hs) fun σ H R ⟨N, F, P, env, S, h⟩ => ?_
  refine ⟨N, F, P, env, S, T.ok_mono (fun N1 r1 ⟨l1, q1⟩ => ?_) (hn _ _ _ (T.ok_bind h))⟩
  intro vs H1 F1 P1 E1 S1 R1 Y1 A1
  split at q1
  · rename_i ds e1
    split at q1
    · rename_i x y e2
      obtain ⟨ok, hv⟩ := rg2_vs e2 (R1.rcs S1 e1)
      have hl := R1.length
      rw [l1] at hl
      rcases hv with ⟨rfl, rfl⟩ | rfl
      · have ok' := rgOk_of ok
        exact ⟨y, rfl, ok'.2.2.1, ok'.2.2.2.1, q1 _ H1 F1 P1 E1 S1 (yield_rng (by omega)) (rngLen ok)⟩
      · simp at hl
    · exact q1.elim
  · exact q1.elim
theorem pi_rng2M {X : Cx} {tg a b : Expr} {ms : MH} {p pos : Pos} (hK : X.K = K) (hg : Gl X "range") (hm : X.mg "range" = none) (ha : PA X [a, b] (tH K Z ms)) (hn : HLen 2 ms) (hs : starEach [a, b] X.env = [(false, eval a X.env), (false, eval b X.env)] := by rfl) (hs2 : starEach [b] X.env = [(false, eval b X.env)] := by rfl) :
    PI X tg (.Call (.Name "range" p) [a, b] [] pos) (tI K Z (iRng ms)) := by
  subst hK
  refine PI.imp (pi_range2 (tg := tg) hg hm ha hs hs2) fun σ H R ⟨N, F, P, env, S, h⟩ => ?_
  refine ⟨N, F, P, env, S, T.ok_mono (fun N1 r1 ⟨l1, q1⟩ => ?_) (hn _ _ _ (T.ok_bind h))⟩
  intro vs H1 F1 P1 E1 S1 R1 Y1 A1
  split at q1
  · rename_i ds e1
    split at q1
    · rename_i x y e2
      obtain ⟨ok, hv⟩ := rg2_vs e2 (R1.rcs S1 e1)
      have hl := R1.length
      rw [l1] at hl
      rcases hv with ⟨rfl, rfl⟩ | rfl
      · simp at hl
      · have ok' := rgOk_of ok
        exact ⟨x, y, rfl, ⟨ok'.1, ok'.2.1, ok'.2.2.1, ok'.2.2.2.1⟩, q1 _ H1 F1 P1 E1 S1 (yield_rng rfl) (rngLen ok)⟩
    · exact q1.elim
  · exact q1.elim
/-! ### enumerate -/
def enumL : Nat → List D → List D
  | _, [] => []
  | i, d :: ds => .tup [.int i, d] :: enumL (i + 1) ds
theorem enumL_len : ∀ (i : Nat) (l : List D), (enumL i l).length = l.length
  | _, [] => rfl
  | i, d :: ds => by simp [enumL, enumL_len]
theorem enumL_get : ∀ (k : Nat) (l : List D) (i : Nat) (e : D), (enumL k l)[i]? = some e → ∃ d, l[i]? = some d ∧ e = .tup [.int ((k + i : Nat) : Int), d]
  | k, [], i, e, h => by simp [enumL] at h
  | k, d :: ds, 0, e, h => by
    simp [enumL] at h
    exact ⟨d, rfl, by rw [← h]; rfl⟩
  | k, d :: ds, i + 1, e, h => by
    obtain ⟨d', h1, h2⟩ := enumL_get (k + 1) ds i e (by simpa [enumL] using h)
    refine ⟨d', by simpa using h1, ?_⟩
    rw [h2, show k + 1 + i = k + (i + 1) by omega]
def iEnumM (ms : MH) : MI := fun env => (ms env).bind fun r => match fzs r.2 r.1 with
  | some ([d], env') => match walkD d with
    | some l => .ret (enumL 0 l, env')
    | none => .fail
  | _ => .fail
theorem yield_enum {b : Bool} {a : Addr} {l : List D} {xs : List V} (r : RVs K F P H l xs) (st : Stays b K F P H a xs) : YieldsD K (IteB b K a) (enumL 0 l) F P H := by
  intro F' P' H' m
  have sq := st F' P' H' m
  have r' := r.mono m
  refine ⟨⟨xs, sq, by rw [r.length, enumL_len]⟩, fun i e he => ?_⟩
  obtain ⟨d, hd, rfl⟩ := enumL_get 0 l i e he
  obtain ⟨x, ex, rx⟩ := r'.get hd
  refine ⟨⟨xs, x, sq, ex⟩, fun y H'' ⟨T', x', e1, e2, e3, f⟩ => .inr ⟨T', [.int (i : Nat), x'], _, e1, e2, e3, rfl, ?_⟩⟩
  have := (f xs sq).symm.trans ex
  cases this
  refine .cons ?_ (.cons rx .nil)
  simp only [RV, Nat.zero_add]
theorem pi_enumM {X : Cx} {e : Expr} {ms : MH} {p pos tpos : Pos} {elts : List Expr} {kk : Nat} (hK : X.K = K) (hg : Gl X "enumerate") (hm : X.mg "enumerate" = none) (ha : PA X [e] (tH K Z ms)) (hs : starEach [e] X.env = [(false, eval e X.env)] := by rfl) :
    PI X (.Tuple elts kk tpos) (.Call (.Name "enumerate" p) [e] [] pos) (tI K Z (iEnumM ms)) := by
  subst hK
  constructor
  intro pins s σ H R I ⟨N, F, P, env, S, h⟩
  refine Call_ (ld_blt I hg hm boot_enumerate (PyProof.Rows.callWith_type1 (thn (ha.run pos pins s σ H (fun vs H1 => ∃ a b xs, vs = [.ref a] ∧ SqB b X.K H1 a xs ∧ (xs.length ≤ sizeLine → R (IteB b X.K a) H1)) I ?_) fun us s1 ⟨vs, H1, I1, r1, q1⟩ => ?_) hs rfl))
  · refine ⟨N, F, P, env, S, T.ok_mono (fun N1 r1 q1 => ?_) (T.ok_bind h)⟩
    intro vs H1 F1 P1 E1 S1 R1 Y1 A1
    split at q1
    · rename_i d env1 e1
      obtain ⟨F2, E2, S2, rv, _⟩ := R1.freeze' E1 S1 Y1 e1
      split at q1
      · rename_i ds e2
        obtain ⟨v, vr, rfl, rv1, rvr⟩ := rv.uncons
        rw [rvr.unnil]
        obtain ⟨a, b, xs, e, rs, st⟩ := rv1.walk e2
        subst e
        exact ⟨a, b, xs, rfl, st.at, fun hz => q1 _ H1 F2 P1 E2 S2 (yield_enum rs st) (by rw [enumL_len, ← rs.length]; exact hz)⟩
      · exact q1.elim
    · exact q1.elim
  · obtain ⟨a, b, xs, rfl, sq, q⟩ := q1
    rw [Vals.ref1 r1]
    obtain ⟨its, rv, p', hz⟩ := sq.at I1
    have q := q hz
    refine call_enumB p' fun h' he hit hk => wpAny_pyIter_enum he ?_
    have I2 : Inv X pins σ H1 { s1 with heap := h' } := I1.kept (t' := s1.toks) hk
    have hlt := p'.lt
    refine ⟨s1.heap.objs.size + 1, [s1.heap.objs.size + 1, s1.heap.objs.size], _, _, H1, rfl, I2, turn_enumB b a (s1.heap.objs.size + 1) s1.heap.objs.size (Nat.ne_of_lt hlt) (Nat.ne_of_gt (Nat.lt_succ_of_lt hlt)), ⟨⟨.none, he⟩, hit, Nat.succ_ne_self _⟩, fun c hb => ?_, q⟩
    have e' : c = s1.heap.objs.size + 1 ∨ c = s1.heap.objs.size := by simpa using hb
    have hle : s1.heap.objs.size ≤ c := by
      rcases e' with z | z
      · rw [z]; exact Nat.le_add_right _ _
      · rw [z]; exact Nat.le_refl _
    exact I1.fpOk hle (I1.hok.fresh hle)
/-! ### zip -/
def zipL : List D → List D → List D
  | x :: xs, y :: ys => .tup [x, y] :: zipL xs ys
  | _, _ => []
theorem zipL_len : ∀ (l l' : List D), (zipL l l').length = min l.length l'.length
  | [], l' => by simp [zipL]
  | x :: xs, [] => by simp [zipL]
  | x :: xs, y :: ys => by simp [zipL, zipL_len xs ys]
theorem zipL_get : ∀ (l l' : List D) (i : Nat) (e : D), (zipL l l')[i]? = some e → ∃ d d', l[i]? = some d ∧ l'[i]? = some d' ∧ e = .tup [d, d']
  | [], l', i, e, h => by simp [zipL] at h
  | x :: xs, [], i, e, h => by simp [zipL] at h
  | x :: xs, y :: ys, 0, e, h => by
    simp [zipL] at h
    exact ⟨x, y, rfl, rfl, h.symm⟩
  | x :: xs, y :: ys, i + 1, e, h => by
    obtain ⟨d, d', h1, h2, h3⟩ := zipL_get xs ys i e (by simpa [zipL] using h)
    exact ⟨d, d', by simpa using h1, by simpa using h2, h3⟩
def iZipM (ms : MH) : MI := fun env => (ms env).bind fun r => match fzs r.2 r.1 with
  | some ([d, d'], env') => match walkD d, walkD d' with
    | some l, some l' => .ret (zipL l l', env')
    | _, _ => .fail
  | _ => .fail
theorem yield_zip {b b' : Bool} {a a' : Addr} {l l' : List D} {xs ys : List V} (r : RVs K F P H l xs) (st : Stays b K F P H a xs) (r2 : RVs K F P H l' ys) (st2 : Stays b' K F P H a' ys) : YieldsD K (ItzB b b' K a a') (zipL l l') F P H := by
  intro F' P' H' m
  have sq := st F' P' H' m
  have sq2 := st2 F' P' H' m
  have r' := r.mono m
  have r2' := r2.mono m
  refine ⟨⟨xs, ys, sq, sq2, by rw [r.length, r2.length, zipL_len]⟩, fun i e he => ?_⟩
  obtain ⟨d, d', hd, hd', rfl⟩ := zipL_get l l' i e he
  obtain ⟨x, ex, rx⟩ := r'.get hd
  obtain ⟨y, ey, ry⟩ := r2'.get hd'
  refine ⟨⟨xs, ys, x, y, sq, sq2, ex, ey⟩, fun v H'' ⟨T', x', y', e1, e2, e3, f, f'⟩ => .inr ⟨T', [x', y'], _, e1, e2, e3, rfl, ?_⟩⟩
  have := (f xs sq).symm.trans ex
  cases this
  have := (f' ys sq2).symm.trans ey
  cases this
  exact .cons rx (.cons ry .nil)
theorem notIn2 {x a b : Nat} (h1 : x ≠ a) (h2 : x ≠ b) : x ∉ [a, b] := by simp [h1, h2]
theorem zipSep {n a a' : Nat} (h : a < n) (h' : a' < n) : ZipSep2 (n + 4) (n + 2) (n + 3) n (n + 1) [n, a] [n + 1, a'] where
  TIz := (show (n + 2 : Nat) ≠ n + 4 by omega)
  TOz := (show (n + 3 : Nat) ≠ n + 4 by omega)
  TITO := (show (n + 2 : Nat) ≠ n + 3 by omega)
  TIi1 := (show (n + 2 : Nat) ≠ n by omega)
  mem1 := by simp
  zf1 := notIn2 (by omega) (by omega)
  Tf1 := notIn2 (by omega) (by omega)
  TIi2 := (show (n + 2 : Nat) ≠ n + 1 by omega)
  mem2 := by simp
  zf2 := notIn2 (by omega) (by omega)
  Tf2 := notIn2 (by omega) (by omega)
  sep1_2 := notIn2 (by omega) (by omega)
  sep2_1 := notIn2 (by omega) (by omega)
theorem pi_zipM {X : Cx} {e e2 : Expr} {ms : MH} {p pos tpos : Pos} {elts : List Expr} {kk : Nat} (hK : X.K = K) (hg : Gl X "zip") (hm : X.mg "zip" = none) (ha : PA X [e, e2] (tH K Z ms))
    (hs : starEach [e, e2] X.env = (false, eval e X.env) :: starEach [e2] X.env := by rfl) (hpl : (backTo pos (starEach [e2] X.env)).any (·.1) = false := by rfl) :
    PI X (.Tuple elts kk tpos) (.Call (.Name "zip" p) [e, e2] [] pos) (tI K Z (iZipM ms)) := by
  subst hK
  constructor
  intro pins s σ H R I ⟨N, F, P, env, S, h⟩
  refine Call_ (ld_blt I hg hm PyProof.Rows.boot_zip (PyProof.Rows.callWith_type1 (thn (ha.run pos pins s σ H (fun vs H1 => ∃ a b xs a' b' ys, vs = [.ref a, .ref a'] ∧ SqB b X.K H1 a xs ∧ SqB b' X.K H1 a' ys ∧ (xs.length ≤ sizeLine → R (ItzB b b' X.K a a') H1)) I ?_) fun us s1 ⟨vs, H1, I1, r1, q1⟩ => ?_) hs hpl))
  · refine ⟨N, F, P, env, S, T.ok_mono (fun N1 r1 q1 => ?_) (T.ok_bind h)⟩
    intro vs H1 F1 P1 E1 S1 R1 Y1 A1
    split at q1
    · rename_i d d' env1 e1
      obtain ⟨F2, E2, S2, rv, _⟩ := R1.freeze' E1 S1 Y1 e1
      split at q1
      · rename_i l l' e2 e3
        obtain ⟨v, vr, rfl, rv1, rvr⟩ := rv.uncons
        obtain ⟨v', vr', rfl, rv1', rvr'⟩ := rvr.uncons
        rw [rvr'.unnil]
        obtain ⟨a, b, xs, e, rs, st⟩ := rv1.walk e2
        obtain ⟨a', b', ys, e', rs', st'⟩ := rv1'.walk e3
        subst e; subst e'
        exact ⟨a, b, xs, a', b', ys, rfl, st.at, st'.at, fun hz => q1 _ H1 F2 P1 E2 S2 (yield_zip rs st rs' st') (by rw [zipL_len, ← rs.length]; omega)⟩
      · exact q1.elim
    · exact q1.elim
  · obtain ⟨a, b, xs, a', b', ys, rfl, sq, sq2, q⟩ := q1
    cases r1 with
    | cons r rr =>
      cases rr with
      | cons r' rr =>
        cases rr
        cases r
        cases r'
        obtain ⟨its, rv, p1, hz⟩ := sq.at I1
        obtain ⟨its2, rv2, p2, _⟩ := sq2.at I1
        have q := q hz
        have fresh5 : ∀ c, c ∈ [s1.heap.objs.size + 4, s1.heap.objs.size + 2, s1.heap.objs.size + 3, s1.heap.objs.size, s1.heap.objs.size + 1] → FpOk X pins H1 c := fun c hcm => by
          have hle : s1.heap.objs.size ≤ c := by
            simp only [List.mem_cons, List.not_mem_nil, or_false] at hcm
            rcases hcm with z | z | z | z | z <;> (rw [z]; first | exact Nat.le_add_right _ _ | exact Nat.le_refl _)
          exact I1.fpOk hle (I1.hok.fresh hle)
        refine zip_begins2 (AtB.begins b a its) (AtB.begins b' a' its2) p1 p2 fun h' hz' hTI hTO h1 h2 hsz hk => wpAny_pyIter_zip hz' ?_
        have I2 : Inv X pins σ H1 { s1 with heap := h' } := I1.kept (t' := s1.toks) hk
        exact ⟨s1.heap.objs.size + 4, [s1.heap.objs.size + 4, s1.heap.objs.size + 2, s1.heap.objs.size + 3, s1.heap.objs.size, s1.heap.objs.size + 1], _, _, H1, rfl, I2, turn_zipB (zipSep p1.lt p2.lt) (Nat.ne_of_lt p1.lt) (Nat.ne_of_lt (Nat.lt_succ_of_lt p2.lt)), ⟨hz', hTI, ⟨_, _, hTO⟩, .new h1, .new h2⟩, fresh5, q⟩
end
end Mi
set_option Elab.async false
set_option linter.all false
set_option maxRecDepth 100000
set_option maxHeartbeats 2000000
namespace Mi
open PySem PySem.Spec PyProof.Rows L2

section
variable {K : PySem.W.Frag} {Z : Fr} {N N' N'' : Nat} {F P F' P' F'' P'' : Addr → Prop} {env env' env'' e0 : Ev} {σ : L2.St} {H H' H'' H0 : Hp} {F0 P0 : Addr → Prop}
/-- the list in a slot changes -/
theorem StR.mut {i : Nat} {a : Addr} {l l' : List D} {ws : List V} (S : StR K Z N F P env σ H) (e : env[i]? = some (some (true, .lst l))) (ea : σ[i]? = some (some (.ref a)))
    (r : ∀ H', Mon K F P H F P H' → RVs K F P H' l' ws) :
    StR K Z N F P (env.set i (some (true, .lst l'))) σ (L2.upd H a (.lst ws)) ∧ Mon K F P H F P (L2.upd H a (.lst ws)) := by
  obtain ⟨a', ea', ⟨vs, ha, rs⟩, nf, np, h0⟩ := S.ow i _ e
  rw [ea] at ea'; cases ea'
  have hi := (List.getElem?_eq_some_iff.mp e).1
  have kp : ∀ b u, b ≠ a → H b = some u → L2.upd H a (.lst ws) b = some u := fun b u h e => by rw [upd_ne h]; exact e
  have m : Mon K F P H F P (L2.upd H a (.lst ws)) := ⟨fun _ h => h, fun _ h => h, fun b xs h => kp _ _ (fun z => by subst z; rw [ha] at h; cases h) h, fun b xs f h => kp _ _ (fun z => nf (z ▸ f)) h, fun b o u h => kp _ _ (fun z => by subst z; rw [ha] at h; cases h) h⟩
  have ow' : ∀ (j : Nat) x, (env.set i (some (true, .lst l')))[j]? = some (some (true, x)) → (j = i ∧ x = .lst l') ∨ (j ≠ i ∧ env[j]? = some (some (true, x))) := fun j x q => by
    by_cases hj : i = j
    · subst hj; rw [List.getElem?_set_self hi] at q; cases q; exact .inl ⟨rfl, rfl⟩
    · rw [List.getElem?_set_ne hj] at q; exact .inr ⟨fun z => hj z.symm, q⟩
  refine ⟨{ len := by simpa using S.len, fz := fun j d q => ?_, ow := fun j d q => ?_, inj := fun j k d d' q q' z => ?_, same := fun b o h p => ?_, frF := S.frF, frP := S.frP, subF := S.subF, subP := S.subP, trF := fun b h => ?_, pot := fun b h => ?_, dis := S.dis, nle := S.nle }, m⟩
  · have q' : env[j]? = some (some (false, d)) := by
      by_cases hj : i = j
      · subst hj; rw [List.getElem?_set_self hi] at q; cases q
      · rw [List.getElem?_set_ne hj] at q; exact q
    obtain ⟨v, e1, r1⟩ := S.fz j d q'
    exact ⟨v, e1, r1.mono m⟩
  · rcases ow' j d q with ⟨rfl, rfl⟩ | ⟨hj, q'⟩
    · exact ⟨a, ea, ⟨ws, upd_same, r _ m⟩, nf, np, h0⟩
    · obtain ⟨b, e1, o, nf', np', h0'⟩ := S.ow j d q'
      have hb : b ≠ a := fun z => hj (S.inj j i _ _ q' e (by rw [e1, ea, z]))
      exact ⟨b, e1, o.mono m fun vs z => kp _ _ hb z, nf', np', h0'⟩
  · have g : ∀ (j : Nat) x, (env.set i (some (true, .lst l')))[j]? = some (some (true, x)) → ∃ y, env[j]? = some (some (true, y)) := fun j x q => by
      rcases ow' j x q with ⟨rfl, _⟩ | ⟨_, q'⟩
      · exact ⟨_, e⟩
      · exact ⟨_, q'⟩
    obtain ⟨y, hy⟩ := g j d q
    obtain ⟨y', hy'⟩ := g k d' q'
    exact S.inj j k _ _ hy hy' z
  · refine kp _ _ (fun z => ?_) (S.same b o h p)
    subst z; rw [h0] at h; cases h
  · obtain ⟨o, e⟩ := S.trF b h
    exact ⟨o, kp _ _ (fun z => nf (z ▸ h)) e⟩
  · have q := S.pot b h
    have hb : b ≠ a := fun z => np (by rw [← z]; exact h)
    rw [upd_ne hb]; exact q
theorem Ext.mut {i : Nat} {a : Addr} {l l' : List D} {o : HO} (E : Ext σ e0 F0 P0 H0 env F P H) (e : env[i]? = some (some (true, .lst l))) (ea : σ[i]? = some (some (.ref a))) :
    Ext σ e0 F0 P0 H0 (env.set i (some (true, .lst l'))) F P (L2.upd H a o) := by
  have hi := (List.getElem?_eq_some_iff.mp e).1
  have hO : Owned e0 σ a := E.own a ⟨i, _, e, ea⟩
  have E' := E.upd (a := a) (o := o) (.inr hO)
  refine ⟨E'.fF, E'.pP, fun b ⟨j, d, q, q'⟩ => ?_, fun j fl d q => ?_, E'.keep, E'.newF, E'.newP, E'.trk⟩
  · by_cases hj : i = j
    · subst hj; rw [ea] at q'; cases q'; exact hO
    · rw [List.getElem?_set_ne hj] at q; exact E.own b ⟨j, d, q, q'⟩
  · obtain ⟨fl', d', q'⟩ := E.slot j fl d q
    by_cases hj : i = j
    · subst hj; exact ⟨true, _, List.getElem?_set_self hi⟩
    · exact ⟨fl', d', by rw [List.getElem?_set_ne hj]; exact q'⟩
/-! ### a name's list is changed by a method -/
def eMut (g : List D → List D → Option (List D × D)) (i : Nat) (ms : MH) : M := fun env => match env[i]? with
  | some (some (true, _)) => (ms env).bind fun r => match fzs r.2 r.1 with
    | some (ds, env') => match env'[i]? with
      | some (some (true, .lst l)) => match g l ds with
        | some (l', d) => .ret (.val d, env'.set i (some (true, .lst l')))
        | none => .fail
      | _ => .fail
    | none => .fail
  | _ => .fail
def OpMut (K : PySem.W.Frag) (r : V → List V → Hp → VK → Prop) (g : List D → List D → Option (List D × D)) : Prop := ∀ {F P : Addr → Prop} {H : Hp} {a : Addr} {l ds l' : List D} {d : D} {vs xs : List V} {Q : VK},
  H a = some (.lst vs) → RVs K F P H l vs → RVs K F P H ds xs → g l ds = some (l', d) → (∀ ws v, (∀ H', Mon K F P H F P H' → RVs K F P H' l' ws ∧ RV K F P H' d v) → Q v (L2.upd H a (.lst ws))) → r (.ref a) xs H Q
theorem eMut_ok {r : V → List V → Hp → VK → Prop} {g : List D → List D → Option (List D × D)} {i : Nat} {ms : MH} {Q : VK} (hr : OpMut K r g) (h : tM K Z (eMut g i ms) σ H Q) : tBM K "list" r (tVar i) (tH K Z ms) σ H Q := by
  obtain ⟨N, F, P, env, S, h⟩ := h
  unfold eMut at h
  split at h
  · rename_i d0 e0
    obtain ⟨a, ea, ow, nf, np, h0⟩ := S.ow i _ e0
    obtain ⟨vs0, ha0⟩ := ow.lst_of
    refine ⟨.ref a, ea, .inl ⟨rfl, vs0, .of ha0⟩, N, F, P, env, S, T.ok_mono (fun N1 r1 q1 => ?_) (T.ok_bind h)⟩
    intro xs H1 F1 P1 E1 S1 R1 Y1 A1
    split at q1
    · rename_i ds env1 e1
      obtain ⟨F2, E2, S2, rv⟩ := R1.freeze E1 S1 Y1 e1
      split at q1
      · rename_i l e2
        obtain ⟨a', ea', ⟨vs, ha, rs⟩, nf2, np2, h02⟩ := S2.ow i _ e2
        rw [ea] at ea'; cases ea'
        split at q1
        · rename_i l' d e3
          refine hr ha rs rv e3 fun ws v hw => ?_
          obtain ⟨S3, m⟩ := S2.mut e2 ea fun H' m => (hw H' m).1
          exact q1 v _ F2 P1 (E2.mut e2 ea) S3 (hw _ m).2 trivial
        · exact q1.elim
      · exact q1.elim
    · exact q1.elim
  · exact h.elim
theorem hNil_nil {Q : List V → Hp → Prop} (h : tH K Z hNil σ H Q) : Q [] H := hNil_ok h
theorem eMut0_ok {r : V → List V → Hp → VK → Prop} {g : List D → List D → Option (List D × D)} {i : Nat} {Q : VK} (hr : OpMut K r g) (h : tM K Z (eMut g i hNil) σ H Q) : tBM0 K "list" r (tVar i) σ H Q := by
  obtain ⟨x, ex, ty, q⟩ := eMut_ok hr h
  exact ⟨x, ex, ty, hNil_nil q⟩
def gAppend (l ds : List D) : Option (List D × D) := match ds with
  | [d] => if l.length < 16777216 then some (l ++ [d], .non) else none
  | _ => none
def gExtend (l ds : List D) : Option (List D × D) := match ds with
  | [.lst e] => if l.length + e.length ≤ 16777216 then some (l ++ e, .non) else none
  | _ => none
def gPop0 (l ds : List D) : Option (List D × D) := match ds, l[l.length - 1]? with
  | [], some d => some (l.dropLast, d)
  | _, _ => none
def gPop1 (l ds : List D) : Option (List D × D) := match ds with
  | [.int i] => match L2.ixN l.length i with
    | some k => match l[k]? with
      | some d => if l.length ≤ 16777216 then some (l.eraseIdx k, d) else none
      | none => none
    | none => none
  | _ => none
theorem op_append : OpMut K rAppend gAppend := by
  intro F P H a l ds l' d vs xs Q ha rs rd e q
  unfold gAppend at e
  split at e
  · split at e
    · rename_i d hz
      cases e
      obtain ⟨v, vr, rfl, rv, rr⟩ := rd.uncons
      rw [rr.unnil]
      refine ⟨a, vs, v, rfl, rfl, ha, by rw [rs.length, sizeLine_eq]; exact hz, q _ _ fun H' m => ⟨(rs.mono m).append (.cons (rv.mono m) .nil), by simp only [RV]⟩⟩
    · cases e
  · cases e
theorem op_extend : OpMut K rExtend gExtend := by
  intro F P H a l ds l' d vs xs Q ha rs rd e q
  unfold gExtend at e
  split at e
  · split at e
    · rename_i es hz
      cases e
      obtain ⟨v, vr, rfl, rv, rr⟩ := rd.uncons
      rw [rr.unnil]
      simp only [RV] at rv
      obtain ⟨b, zs, rfl, f, hb, rz⟩ := rv
      refine ⟨a, b, vs, zs, rfl, rfl, ha, hb, by rw [rs.length, rz.length, sizeLine_eq]; exact hz, q _ _ fun H' m => ⟨(rs.mono m).append (rz.mono m), by simp only [RV]⟩⟩
    · cases e
  · cases e
theorem op_pop0 : OpMut K rPop gPop0 := by
  intro F P H a l ds l' d vs xs Q ha rs rd e q
  unfold gPop0 at e
  split at e
  · rename_i d' e2
    cases e
    rw [rd.unnil]
    obtain ⟨v, ev, rv⟩ := rs.get e2
    rw [← rs.length] at ev
    exact ⟨a, vs, v, rfl, rfl, ha, ev, q _ _ fun H' m => ⟨(rs.mono m).dropLast, rv.mono m⟩⟩
  · cases e
theorem op_pop1 : OpMut K rPopAt gPop1 := by
  intro F P H a l ds l' d vs xs Q ha rs rd e q
  unfold gPop1 at e
  split at e
  · rename_i i
    split at e
    · rename_i k e1
      split at e
      · rename_i d' e2
        split at e
        · rename_i hz
          cases e
          obtain ⟨v, vr, rfl, rv, rr⟩ := rd.uncons
          rw [rr.unnil]
          simp only [RV] at rv
          subst rv
          obtain ⟨y, ey, ry⟩ := rs.get e2
          obtain ⟨h1, h2, h3, h4⟩ := ixN_seq e1
          exact ⟨a, vs, i, k, y, rfl, rfl, ha, by omega, by omega, by rw [rs.length]; exact h1, ey, q _ _ fun H' m => ⟨(rs.mono m).eraseIdx k, ry.mono m⟩⟩
        · cases e
      · cases e
    · cases e
  · cases e
/-! ### name[i] = value -/
def sStore (i : Nat) (mi m : M) : MS := fun env => (m env).bind fun r => match fz r.2 r.1 with
  | some (d, env1) => match env1[i]? with
    | some (some (true, _)) => (mi env1).bind fun r2 => match r2.1 with
      | .val (.int k) => match r2.2[i]? with
        | some (some (true, .lst l)) => match L2.ixN l.length k with
          | some j => .ret (.nx, r2.2.set i (some (true, .lst (l.set j d))))
          | none => .fail
        | _ => .fail
      | _ => .fail
    | _ => .fail
  | none => .fail
theorem sStore_ok {i : Nat} {mi m : M} {D : Ends} (h : sM K Z (sStore i mi m) D σ H) : tAsg (tM K Z m) (gSub (tVar i) (tM K Z mi) rSetL) D σ H := by
  obtain ⟨N, F, P, env, S, h⟩ := h
  refine ⟨N, F, P, env, S, T.ok_mono (fun N1 r1 q1 => ?_) (T.ok_bind h)⟩
  intro v H1 F1 P1 E1 S1 R1 Y1
  split at q1
  · rename_i d env1 e1
    obtain ⟨F2, E2, S2, rv⟩ := R1.freeze E1 S1 Y1 e1
    split at q1
    · rename_i d0 e0
      obtain ⟨a, ea, ow, nf, np, h0⟩ := S2.ow i _ e0
      refine ⟨.ref a, ea, N1, F2, P1, env1, S2, T.ok_mono (fun N3 r3 q3 => ?_) (T.ok_bind q1)⟩
      intro u H3 F3 P3 E3 S3 R3 Y3
      split at q3
      · rename_i k ek
        rw [ek] at R3
        have R3' : RV K F3 P3 H3 (.int k) u := R3
        simp only [RV] at R3'
        subst R3'
        split at q3
        · rename_i l e2
          split at q3
          · rename_i j e3
            obtain ⟨a', ea', ⟨vs, ha, rs⟩, nf2, np2, h02⟩ := S3.ow i _ e2
            rw [ea] at ea'; cases ea'
            refine ⟨a, vs, k, j, rfl, rfl, ha, by rw [rs.length]; exact e3, ?_⟩
            have rv3 : RV K F3 P3 H3 d v := rv.mono (E3.mon S2)
            obtain ⟨S4, m⟩ := S3.mut (l' := l.set j d) (ws := vs.set j v) e2 ea fun H' m => (rs.mono m).set j (rv3.mono m)
            exact q3 _ _ F3 P3 (((E2.mon S).trans (E3.mon S2)).trans m) S4
          · exact q3.elim
        · exact q3.elim
      · exact q3.elim
    · exact q1.elim
  · exact q1.elim
/-! ### l.index(x) -/
def eMt (g : D → List D → Option Hd) (m : M) (ms : MH) : M := fun env => (m env).bind fun r0 => match rs r0.2 r0.1 with
  | some (.lst _) => (ms r0.2).bind fun r => match rs r.2 r0.1, rss r.2 r.1 with
    | some d, some ds => match g d ds with
      | some h => .ret (h, r.2)
      | none => .fail
    | _, _ => .fail
  | _ => .fail
def rMtM (K : PySem.W.Frag) (g : D → List D → Option Hd) : V → List V → Hp → VK → Prop := fun x xs H Q => ∃ (F P : Addr → Prop) (d : D) (ds : List D) (h : Hd), RC K F P H d x ∧ RCs K F P H ds xs ∧ g d ds = some h ∧ ResK K F P H h Q
def NSM (g : D → List D → Option Hd) : Prop := ∀ d ds h, g d ds = some h → noSl h = true
theorem eMt_ok {g : D → List D → Option Hd} {m : M} {ms : MH} {Q : VK} (hl : NSM g) (h : tM K Z (eMt g m ms) σ H Q) : tBM K "list" (rMtM K g) (tM K Z m) (tH K Z ms) σ H Q := by
  obtain ⟨N, F, P, env, S, h⟩ := h
  refine ⟨N, F, P, env, S, T.ok_mono (fun N1 r1 q1 => ?_) (T.ok_bind h)⟩
  intro v H1 F1 P1 E1 S1 R1 Y1
  split at q1
  · rename_i l e1
    obtain ⟨a, vs, rfl, ha, _⟩ := (R1.rc S1 e1).lst
    refine ⟨.inl ⟨rfl, vs, .of ha⟩, N1, F1, P1, r1.2, S1, T.ok_mono (fun N2 r2 q2 => ?_) (T.ok_bind q1)⟩
    intro xs H2 F2 P2 E2 S2 R2 Y2 A2
    split at q2
    · rename_i d ds e2 e3
      split at q2
      · rename_i h' e4
        exact ⟨F2, P2, d, ds, h', (R1.ext S1 E2).rc S2 e2, R2.rcs S2 e3, e4, Post.res S2 (noSl_ne (hl _ _ _ e4)) (Post.from (E1.trans E2) q2)⟩
      · exact q2.elim
    · exact q2.elim
  · exact q1.elim
def gIdx (d : D) (ds : List D) : Option Hd := match d, ds with
  | .lst l, [x] => if l.length ≤ 16777216 ∧ (anyO (fun y => eqDn DEEP y x) l).isSome then (idxO (fun y => eqDn DEEP y x) l).map fun (j : Nat) => .val (.int j) else none
  | _, _ => none
theorem gIdx_ns : NSM gIdx := by
  intro d ds h q
  unfold gIdx at q
  split at q
  · split at q
    · exact map_ns q
    · cases q
  · cases q
theorem idxO_at {s : Shared} {n : Nat} {d : D} : ∀ {ds : List D} {its : List Value} {j : Nat}, Vds s.heap ds its → idxO (fun x => eqDn n x d) ds = some j → (∃ y, its[j]? = some y ∧ eqF s.heap n d y = true) ∧ ∀ (m : Nat) y, m < j → its[m]? = some y → eqF s.heap n d y = false
  | [], its, j, v, e => by cases e
  | x :: ds, its, j, v, e => by
    simp only [Vds] at v
    obtain ⟨u, ur, rfl, q, r⟩ := v
    unfold idxO at e
    split at e
    · rename_i e1
      cases e
      exact ⟨⟨u, rfl, eqF_eq q e1⟩, fun m y h => by omega⟩
    · rename_i e1
      cases e2 : idxO (fun x => eqDn n x d) ds with
      | none => rw [e2] at e; cases e
      | some k =>
        rw [e2] at e; cases e
        obtain ⟨⟨y, h1, h2⟩, h3⟩ := idxO_at r e2
        refine ⟨⟨y, by simpa using h1, h2⟩, fun m z hm hz => ?_⟩
        cases m with
        | zero => simp at hz; subst hz; exact eqF_eq q e1
        | succ m => exact h3 m z (by dsimp only at hm; omega) (by simpa using hz)
    · cases e
theorem mt_idx {X : Cx} (hu : X.A.units + DEEP + 2 < cLine) : MtR X "list.index" (rMtM X.K gIdx) := by
  intro pins s σ H x xs v us Q I rx rxs ⟨F, P, d, ds, h, r1, r2, e, res⟩
  unfold gIdx at e
  split at e
  · rename_i l y
    split at e
    · rename_i hz
      cases e2 : idxO (fun z => eqDn DEEP z y) l with
      | none => rw [e2] at e; cases e
      | some j =>
        rw [e2] at e; cases e
        obtain ⟨b, hb⟩ := Option.isSome_iff_exists.mp hz.2
        obtain ⟨a, vs, rfl, ha, ra⟩ := r1.lst
        obtain ⟨w, rfl, rw'⟩ := r2.one
        cases rx
        obtain ⟨u, rfl, ru⟩ := rxs.one
        obtain ⟨hzz, its, n, rv, ho⟩ := I.hok a _ ha
        have vd := RVs.vd I l vs its ra rv
        have vy := rw'.vd I ru
        obtain ⟨⟨z, h1, h2⟩, h3⟩ := idxO_at vd e2
        obtain ⟨hj, ej⟩ := List.getElem?_eq_some_iff.mp h1
        have hlen := vd.length
        refine call_meets PySem.F.slot_list_index ⟨_, ho, rfl⟩ PySem.F.entry_list_index (PySem.F.args_list_index_2 _ _)
          (SeqAt.list_indexAt a its.toArray n _ _ u (eqF s.heap DEEP y) j (by simpa using hj) (by omega) (by simpa [ej] using h2) fun m hm hmj => ?_) ⟨ho, fun z m => eqF_at vd vy (anyO_at hb) X.A.in1 (by show X.A.units + 1 + DEEP < cLine; omega) z (by simpa using m), ?_⟩
        · have hm' : m < its.length := by simpa using hm
          have := h3 m its[m] hmj (List.getElem?_eq_getElem hm')
          simpa using this
        · exact ⟨.int (j : Nat), H, I.tok _, ⟨_, rfl⟩, res.1 _ rv_int⟩
    · cases e
  · cases e
end
end Mi
set_option Elab.async false
set_option linter.all false
set_option maxRecDepth 100000
set_option maxHeartbeats 2000000
namespace Mi
open PySem PySem.Spec PyProof.Rows L2

/-! ### repr -/
mutual
def toPy : D → PyData
  | .non => .none
  | .bl b => .bool b
  | .int i => .int i
  | .str x => .str ⟨x.toArray⟩
  | .tup l => .tuple (toPys l)
  | .lst l => .list (toPys l)
  | _ => .none
def toPys : List D → List PyData
  | [] => []
  | d :: ds => toPy d :: toPys ds
end
mutual
def okSh : D → Bool
  | .non => true
  | .bl _ => true
  | .int i => decide (i.natAbs < 100000000000000000000)
  | .str x => x.all fun c => decide (c < 4294967296)
  | .tup l => okShs l
  | .lst l => okShs l
  | _ => false
def okShs : List D → Bool
  | [] => true
  | d :: ds => okSh d && okShs ds
end
mutual
def shC : D → Nat
  | .non => 5
  | .bl _ => 5
  | .int _ => 22
  | .str x => 10 * x.length + 2
  | .tup l => shCs l + 2
  | .lst l => shCs l + 2
  | _ => 0
def shCs : List D → Nat
  | [] => 0
  | d :: ds => shC d + 2 + shCs ds
end
mutual
def dpD : D → Nat
  | .tup l => dpDs l + 1
  | .lst l => dpDs l + 1
  | _ => 0
def dpDs : List D → Nat
  | [] => 0
  | d :: ds => max (dpD d) (dpDs ds)
end
theorem list_text (ts : List Str) : (listText ts).length ≤ piled ts + 2 := by
  cases ts with
  | nil => decide +kernel
  | cons t r =>
    have h := textFrom_length_pos r 1 (("[" : Str) ++ (if (0 : Nat) > 0 then ", " else "" : String) ++ t) (Nat.succ_pos 0)
    have e : ((("[" : Str) ++ (if (0 : Nat) > 0 then ", " else "" : String) ++ t)).length = 1 + t.length := by
      rw [strLen_append, strLen_append]; rfl
    have hX : (listText (t :: r)).length = (textFrom 0 "[" (t :: r)).length + 1 := by
      show (textFrom 0 "[" (t :: r) ++ "]").length = _
      rw [strLen_append]; rfl
    have hY : (textFrom 0 "[" (t :: r)).length = (textFrom 1 (("[" : Str) ++ (if (0 : Nat) > 0 then ", " else "" : String) ++ t) r).length := rfl
    rw [hX, hY, h, e, piled_cons]; omega
mutual
theorem shC_le : ∀ d : D, okSh d = true → (toPy d).shown.length ≤ shC d ∧ (toPy d).showable = true ∧ (toPy d).hasDict = false ∧ (toPy d).depth = dpD d
  | .non, _ => ⟨by decide +kernel, rfl, rfl, rfl⟩
  | .bl b, _ => ⟨by cases b <;> decide +kernel, rfl, rfl, rfl⟩
  | .int i, h => by
    simp only [okSh, decide_eq_true_eq] at h
    refine ⟨?_, ?_, rfl, by simp [toPy, dpD, PyData.depth]⟩
    · have e := int_text_length_le10 (a := i) (k := 20) (by decide) (by omega)
      show (Str.ofString (toString i)).length ≤ 22
      rw [PySem.ofString_length]; omega
    · simp only [toPy, PyData.showable, decide_eq_true_eq]
      by_cases h0 : i.natAbs = 0
      · rw [h0]; decide
      · have : i.natAbs < 2 ^ 100 := by omega
        have := (Nat.log2_lt h0).mpr this
        omega
  | .str x, h => by
    simp only [okSh, List.all_eq_true, decide_eq_true_eq] at h
    refine ⟨?_, rfl, rfl, by simp [toPy, dpD, PyData.depth]⟩
    have := StrLaws.reprText_len ⟨x.toArray⟩ (by simpa using fun c hc => h c hc)
    show (reprText ⟨x.toArray⟩).length ≤ 10 * x.length + 2
    have e : (⟨x.toArray⟩ : Str).length = x.length := by simp [Str.length]
    rw [e] at this
    exact this
  | .tup l, h => by
    simp only [okSh] at h
    obtain ⟨h1, h2, h3, h4⟩ := shCs_le l h
    refine ⟨?_, by simpa only [toPy, PyData.showable] using h2, by simpa only [toPy, PyData.hasDict] using h3, by simp only [toPy, PyData.depth, dpD, h4]⟩
    simp only [toPy, PyData.shown, shC]
    have := fmt_text (PyData.shownAll (toPys l))
    omega
  | .lst l, h => by
    simp only [okSh] at h
    obtain ⟨h1, h2, h3, h4⟩ := shCs_le l h
    refine ⟨?_, by simpa only [toPy, PyData.showable] using h2, by simpa only [toPy, PyData.hasDict] using h3, by simp only [toPy, PyData.depth, dpD, h4]⟩
    simp only [toPy, PyData.shown, shC]
    have := list_text (PyData.shownAll (toPys l))
    omega
  | .dic _, h => by cases h
  | .pot, h => by cases h
  | .scr _, h => by cases h
  | .rep _, h => by cases h
theorem shCs_le : ∀ l : List D, okShs l = true → piled (PyData.shownAll (toPys l)) ≤ shCs l ∧ PyData.showableAll (toPys l) = true ∧ PyData.hasDictAll (toPys l) = false ∧ PyData.depthAll (toPys l) = dpDs l
  | [], _ => ⟨by simp [toPys, PyData.shownAll, piled_nil, shCs], by simp [toPys, PyData.showableAll], by simp [toPys, PyData.hasDictAll], by simp [toPys, PyData.depthAll, dpDs]⟩
  | d :: ds, h => by
    simp only [okShs, Bool.and_eq_true] at h
    obtain ⟨a1, a2, a3, a4⟩ := shC_le d h.1
    obtain ⟨b1, b2, b3, b4⟩ := shCs_le ds h.2
    refine ⟨?_, by simp [toPys, PyData.showableAll, a2, b2], by simp [toPys, PyData.hasDictAll, a3, b3], by simp [toPys, PyData.depthAll, dpDs, a4, b4]⟩
    simp only [toPys, PyData.shownAll, shCs]
    rw [piled_cons]
    omega
end
mutual
theorem Vd.reads {h : Heap} : ∀ (d : D) (u : Value), okSh d = true → Vd h d u → ∃ as, Reads h u (toPy d) as
  | .non, u, _, q => by simp only [Vd] at q; subst q; exact ⟨_, .none⟩
  | .bl b, u, _, q => by simp only [Vd] at q; subst q; exact ⟨_, .bool b⟩
  | .int i, u, _, q => by simp only [Vd] at q; obtain ⟨t, rfl⟩ := q; exact ⟨_, .int i t⟩
  | .str x, u, _, q => by simp only [Vd] at q; obtain ⟨t, rfl⟩ := q; exact ⟨_, .str _ t⟩
  | .tup l, u, ok, q => by
    simp only [Vd] at q
    obtain ⟨a, its, rfl, ⟨o, ho, hc, n, hd⟩, qs⟩ := q
    obtain ⟨as, r⟩ := Vds.reads l its (by simpa only [okSh] using ok) qs
    exact ⟨_, .tuple ho hc hd r⟩
  | .lst l, u, ok, q => by
    simp only [Vd] at q
    obtain ⟨a, its, rfl, ⟨o, ho, hc, n, hd⟩, qs⟩ := q
    obtain ⟨as, r⟩ := Vds.reads l its (by simpa only [okSh] using ok) qs
    exact ⟨_, .list ho hc hd r⟩
  | .dic _, u, ok, q => by cases ok
  | .pot, u, ok, q => by cases ok
  | .scr _, u, ok, q => by cases ok
  | .rep _, u, ok, q => by cases ok
theorem Vds.reads {h : Heap} : ∀ (l : List D) (us : List Value), okShs l = true → Vds h l us → ∃ as, ReadsAll h us (toPys l) as
  | [], us, _, q => by simp only [Vds] at q; subst q; exact ⟨_, .nil⟩
  | d :: ds, us, ok, q => by
    simp only [Vds] at q
    obtain ⟨u, ur, rfl, q1, qr⟩ := q
    simp only [okShs, Bool.and_eq_true] at ok
    obtain ⟨a1, r1⟩ := Vd.reads d u ok.1 q1
    obtain ⟨a2, r2⟩ := Vds.reads ds ur ok.2 qr
    exact ⟨_, .cons r1 r2⟩
end
def repOk (d : D) : Bool := okSh d && decide (shC d ≤ 16777000) && decide (dpD d ≤ 30)
def rRep (K : PySem.W.Frag) : List V → Hp → VK → Prop := fun xs H Q => ∃ (F P : Addr → Prop) (d : D), RCs K F P H [d] xs ∧ repOk d = true ∧ Q (.str (toPy d).shown) H
section
variable {X : Cx}
theorem call_reprM (hg : X.A.guards = some []) (hu : X.A.units + DEEP < cLine) : CallR X (.builtin "repr") (rRep X.K) := by
  intro pins s σ H xs us Q I r ⟨F, P, d, rs, ok, q⟩
  obtain ⟨x, rfl, r1⟩ := rs.one
  obtain ⟨u, rfl, ru⟩ := vals1 r
  have vd := r1.vd I ru
  unfold repOk at ok
  simp only [Bool.and_eq_true, decide_eq_true_eq] at ok
  obtain ⟨⟨ok, hz⟩, hd⟩ := ok
  obtain ⟨h1, h2, h3, h4⟩ := shC_le d ok
  have hz' : (toPy d).shown.length ≤ sizeLine := by rw [sizeLine_eq]; omega
  obtain ⟨as, rd⟩ := Vd.reads d u ok vd
  have hD : DEEP = 40 := rfl
  cases d with
  | non =>
    simp only [Vd] at vd; subst vd
    exact PySem.P.repr_of_none ⟨.str _, H, I.tok _, ⟨_, rfl⟩, q⟩
  | bl b =>
    simp only [Vd] at vd; subst vd
    exact PySem.P.repr_of_bool ⟨.str _, H, I.tok _, ⟨_, by simp only [toPy, PyData.shown]; rfl⟩, q⟩
  | int i =>
    simp only [Vd] at vd; obtain ⟨t, rfl⟩ := vd
    refine PySem.P.repr_of_int (by simpa only [toPy, PyData.showable, decide_eq_true_eq] using h2) ⟨.str _, H, I.tok _, ⟨_, rfl⟩, q⟩
  | str z =>
    simp only [Vd] at vd; obtain ⟨t, rfl⟩ := vd
    exact PySem.P.repr_of_str ⟨.str _, H, I.tok _, ⟨_, rfl⟩, q⟩ hz'
  | tup l =>
    have vd' := vd
    simp only [Vd] at vd'
    obtain ⟨a, its, rfl, _⟩ := vd'
    exact repr_of_reads' rd h2 (fun z => by rw [h3] at z; cases z) hg (by rw [h4]; omega) (fun b o e => e) (fun h' u tk hk => ⟨.str _, H, I.kept hk, ⟨u, rfl⟩, q⟩) hz'
  | lst l =>
    have vd' := vd
    simp only [Vd] at vd'
    obtain ⟨a, its, rfl, _⟩ := vd'
    exact repr_of_reads' rd h2 (fun z => by rw [h3] at z; cases z) hg (by rw [h4]; omega) (fun b o e => e) (fun h' u tk hk => ⟨.str _, H, I.kept hk, ⟨u, rfl⟩, q⟩) hz'
  | _ => cases ok
end
section
variable {K : PySem.W.Frag} {Z : Fr} {N N' N'' : Nat} {F P F' P' F'' P'' : Addr → Prop} {env env' env'' e0 : Ev} {σ : L2.St} {H H' H'' H0 : Hp} {F0 P0 : Addr → Prop}
def eRep (f : Bool → Bool) (m1 m2 : M) : M := fun env => (m1 env).bind fun r1 => match rs r1.2 r1.1 with
  | some d1 => if repOk d1 = true then (m2 r1.2).bind fun r2 => match rs r2.2 r2.1 with
    | some d2 => if repOk d2 = true then .ret (.val (.bl (f (decide ((toPy d1).shown = (toPy d2).shown)))), r2.2) else .fail
    | none => .fail
    else .fail
  | none => .fail
theorem RC.rcs1 {d : D} {v : V} (r : RC K F P H d v) : RCs K F P H [d] [v] := ⟨v, [], rfl, r, rfl⟩
theorem eRep_ok {r : R2} {f : Bool → Bool} {m1 m2 : M} {Q : VK} (hr : ∀ (x y : Str) (H : Hp) (Q : VK), Q (.bl (f (decide (x = y)))) H → r (.str x) (.str y) H Q) (h : tM K Z (eRep f m1 m2) σ H Q) :
    tOp r (tCB (rRep K) (tCons (tM K Z m1) tNil)) (tCB (rRep K) (tCons (tM K Z m2) tNil)) σ H Q := by
  obtain ⟨N, F, P, env, S, h⟩ := h
  refine ⟨N, F, P, env, S, T.ok_mono (fun N1 r1 q1 => ?_) (T.ok_bind h)⟩
  intro v1 H1 F1 P1 E1 S1 R1 Y1
  split at q1
  · rename_i d1 e1
    split at q1
    · rename_i o1
      refine ⟨F1, P1, d1, (R1.rc S1 e1).rcs1, o1, N1, F1, P1, r1.2, S1, T.ok_mono (fun N2 r2 q2 => ?_) (T.ok_bind q1)⟩
      intro v2 H2 F2 P2 E2 S2 R2 Y2
      split at q2
      · rename_i d2 e2
        split at q2
        · rename_i o2
          refine ⟨F2, P2, d2, (R2.rc S2 e2).rcs1, o2, hr _ _ _ _ ?_⟩
          exact q2 _ H2 F2 P2 (E1.trans E2) S2 (by show RV K F2 P2 H2 (.bl _) _; simp only [RV]) trivial
        · exact q2.elim
      · exact q2.elim
    · exact q1.elim
  · exact q1.elim
theorem rep_ne (x y : Str) (H : Hp) (Q : VK) (q : Q (.bl (!decide (x = y))) H) : rNe (.str x) (.str y) H Q := by
  refine ⟨rfl, ?_⟩
  have : decide (V.str x = V.str y) = decide (x = y) := by
    by_cases e : x = y
    · subst e; simp
    · rw [decide_eq_false e, decide_eq_false fun z => e (V.str.inj z)]
  rw [this]; exact q
theorem rep_eq (x y : Str) (H : Hp) (Q : VK) (q : Q (.bl (decide (x = y))) H) : rEq (.str x) (.str y) H Q := by
  refine ⟨rfl, ?_⟩
  have : decide (V.str x = V.str y) = decide (x = y) := by
    by_cases e : x = y
    · subst e; simp
    · rw [decide_eq_false e, decide_eq_false fun z => e (V.str.inj z)]
  rw [this]; exact q
end
end Mi
set_option Elab.async false
set_option linter.all false
set_option maxRecDepth 100000
set_option maxHeartbeats 2000000
namespace Mi
open PySem PySem.Spec PyProof.Rows L2

/-! ### powers of any base -/
theorem bits_of {i : Int} {k : Nat} (hk : 0 < k) (h : i.natAbs < 2 ^ k) : Builtin.Int.intBits i ≤ k := by
  unfold Builtin.Int.intBits
  split
  · omega
  · have := PySem.Flt.log2_lt_of hk h
    omega
/-! ### the draw -/
def takeG : List D → T D
  | [.pot, .int k] => if 0 < k ∧ k < 1073741824 then .draw k.toNat fun d => .ret (.int (d : Nat)) else .fail
  | _ => .fail
abbrev rAdd0 : R2 := rI0 fun i j => .int (i + j)
abbrev rMod0 : R2 := rI (fun _ j => 0 < j) fun i j => .int (i % j)
abbrev rDiv0 : R2 := rI CDiv fun i j => .int (i / j)
abbrev rMul0 : R2 := rI CMulW fun i j => .int (i * j)
abbrev rPow0 : R2 := rI CPowB fun i j => .int (i ^ j.toNat)
abbrev rGt0 : R2 := rI0 fun i j => .bl (decide (j < i))
abbrev rInt0 : List V → Hp → VK → Prop := fun xs H Q => (∃ i, xs = [.int i] ∧ Q (.int i) H) ∨ ∃ k, xs = [.bl k] ∧ Q (.int (if k then 1 else 0)) H
def tI1 (t : TE) : TE := tCB rInt0 (tCons t tNil)
def tP (K : PySem.W.Frag) (k : Int) : TE := tOp (rIxL K) (tVar 0) (tC (.int k))
def tC5 : TA := tCons (tC (.int 2147483647)) (tCons (tC (.int 2147483629)) (tCons (tC (.int 2147483587)) (tCons (tC (.int 2147483579)) (tCons (tC (.int 2147483563)) tNil))))
def takeR (K : PySem.W.Frag) : TS :=
  tSeq (tIfS (tTest (tOp rGt0 (tP K 0) (tC (.int 0))))
    (tSeq (tAsg (tOp rMod0 (tI1 (tP K 0)) (tVar 1)) (gName 2)) (tSeq (tAsg (tOp rDiv0 (tP K 0) (tVar 1)) (gSub (tVar 0) (tC (.int 0)) rSetL)) (tRet (tVar 2)))) tNext)
  (tSeq (tAsg (tOp rAdd0 (tP K 2) (tC (.int 1))) (gSub (tVar 0) (tC (.int 2)) rSetL))
  (tSeq (tAsg (tOp (rIxL K) (tLst tC5) (tOp rMod0 (tI1 (tP K 2)) (tC (.int 5)))) (gName 3))
  (tSeq (tAsg (tOp rMod0 (tI1 (tOp rPow0 (tI1 (tOp rAdd0 (tOp rAdd0 (tP K 1) (tOp rMul0 (tOp rMul0 (tC (.int 93251)) (tP K 2)) (tP K 2))) (tC (.int 4177)))) (tC (.int 3)))) (tVar 3)) (gName 4))
  (tSeq (tAsg (tOp rMod0 (tI1 (tOp rMul0 (tVar 4) (tOp rAdd0 (tOp rMod0 (tI1 (tVar 4)) (tC (.int 12907))) (tOp rMul0 (tC (.int 433)) (tP K 2))))) (tC (.int 2305843009213693907))) (gName 4))
  (tRet (tOp rMod0 (tI1 (tOp rDiv0 (tVar 4) (tC (.int 241)))) (tVar 1)))))))
/-- an int, and nothing changes -/
def IntE (t : TE) (σ : L2.St) (H : Hp) (i : Int) : Prop := ∀ Q : VK, Q (.int i) H → t σ H Q
section
variable {K : PySem.W.Frag} {σ : L2.St} {H : Hp} {i j : Int}
theorem IntE.c : IntE (tC (.int i)) σ H i := fun Q q => q
theorem IntE.var {n : Nat} (e : σ[n]? = some (some (.int i))) : IntE (tVar n) σ H i := fun Q q => ⟨_, e, q⟩
theorem IntE.i1 {t : TE} (h : IntE t σ H i) : IntE (tI1 t) σ H i := fun Q q => h _ (.inl ⟨i, rfl, q⟩)
theorem IntE.op0 {t u : TE} {g : Int → Int → Int} (h : IntE t σ H i) (h' : IntE u σ H j) : IntE (tOp (rI0 fun i j => .int (g i j)) t u) σ H (g i j) := fun Q q => h _ (h' _ ⟨i, j, rfl, rfl, q⟩)
theorem IntE.op {t u : TE} {C : Int → Int → Prop} {g : Int → Int → Int} (h : IntE t σ H i) (h' : IntE u σ H j) (c : C i j) : IntE (tOp (rI C fun i j => .int (g i j)) t u) σ H (g i j) := fun Q q => h _ (h' _ ⟨i, j, rfl, rfl, c, q⟩)
theorem IntE.p {a : Addr} {x y c : Int} (e : σ[0]? = some (some (.ref a))) (h : H a = some (.lst [.int x, .int y, .int c])) : IntE (tP K 0) σ H x ∧ IntE (tP K 1) σ H y ∧ IntE (tP K 2) σ H c :=
  ⟨fun Q q => ⟨_, e, a, _, 0, _, rfl, rfl, .of h, rfl, q⟩, fun Q q => ⟨_, e, a, _, 1, _, rfl, rfl, .of h, rfl, q⟩, fun Q q => ⟨_, e, a, _, 2, _, rfl, rfl, .of h, rfl, q⟩⟩
theorem IntE.asg {t : TE} {g : TG} {D : Ends} (h : IntE t σ H i) (q : g (.int i) σ H D.nx) : tAsg t g D σ H := h _ q
theorem IntE.ret {t : TE} {D : Ends} (h : IntE t σ H i) (q : D.rt (.int i) H) : tRet t D σ H := h _ q
end
theorem pot_upd {N : Nat} {F P : Addr → Prop} {H H' : Hp} {a : Addr} (W : WOk (N + 1) F P H) (pa : P a) (k : ∀ b o, b ≠ a → H b = some o → H' b = some o) (po : PotOk N (H' a)) : CExt F P H F P H' ∧ WOk N F P H' := by
  refine ⟨⟨fun _ h => h, fun _ h => h, fun b o e p => k b o (fun z => p (z ▸ pa)) e, fun _ h => .inl h, fun _ h => .inl h⟩, fun b f => ?_, fun b p => ?_, W.dis, by have := W.nle; omega⟩
  · obtain ⟨o, e⟩ := W.trF b f
    exact ⟨o, k b o (fun z => W.dis b f (z ▸ pa)) e⟩
  · by_cases hb : b = a
    · subst hb; exact po
    · obtain ⟨x, y, c, e, h⟩ := W.pot b p
      exact ⟨x, y, c, k b _ hb e, by omega⟩
theorem pow2_lt {c : Int} {k : Nat} (h0 : 0 ≤ c) (h : c ≤ (2 ^ k : Nat)) : c.natAbs < 2 ^ (k + 1) := by
  have h1 : 2 ^ (k + 1) = 2 ^ k * 2 := Nat.pow_succ 2 k
  have h2 : 0 < 2 ^ k := Nat.two_pow_pos k
  generalize 2 ^ k = m at h h1 h2
  omega
theorem lim_bits {c : Int} (h0 : 0 ≤ c) (h : c ≤ LIM) : c.natAbs < 2 ^ 100001 := pow2_lt (k := 100000) h0 h
theorem mulW {i j : Int} {a b : Nat} (ha : i.natAbs < 2 ^ a) (hb : j.natAbs < 2 ^ b) (h0 : 0 < a) (h1 : 0 < b) (h : a + b ≤ 1000000) : CMulW i j := wide_mul ha hb h0 h1 h
theorem abs_mul {i j : Int} {a b c : Nat} (ha : i.natAbs < 2 ^ a) (hb : j.natAbs < 2 ^ b) (h : a + b = c) : (i * j).natAbs < 2 ^ c := by
  subst h
  rw [Int.natAbs_mul, Nat.pow_add]
  exact Nat.mul_lt_mul'' ha hb
theorem abs_add {i j : Int} {a c : Nat} (ha : i.natAbs < 2 ^ a) (hb : j.natAbs < 2 ^ a) (h : a + 1 = c) : (i + j).natAbs < 2 ^ c := by
  subst h
  have h1 : 2 ^ (a + 1) = 2 ^ a * 2 := Nat.pow_succ 2 a
  generalize 2 ^ a = m at ha hb h1
  omega
theorem abs_le {i : Int} {a b : Nat} (ha : i.natAbs < 2 ^ a) (h : a ≤ b) : i.natAbs < 2 ^ b := Nat.lt_of_lt_of_le ha (Nat.pow_le_pow_right (by omega) h)
section
variable {K : PySem.W.Frag}
theorem take_read {Nm : List Str} (hN : Nm.length = 5) {vs : List V} {H : Hp} {Q : VK} {E : XK} (h : spM K takeG 2 vs H Q E) : takeR K { nx := fun _ H' => Q .non H', rt := Q } (L2.start Nm vs) H := by
  obtain ⟨N, F, P, ds, hl, r, W, h⟩ := h
  unfold takeG at h
  split at h
  · rename_i k
    split at h
    · rename_i hk
      obtain ⟨v, vr, rfl, r1, rr⟩ := r.uncons
      obtain ⟨u, ur, rfl, r2, rr2⟩ := rr.uncons
      rw [rr2.unnil]
      simp only [RV] at r1 r2
      obtain ⟨a, rfl, pa⟩ := r1
      subst r2
      cases N with
      | zero => exact h.elim
      | succ N =>
        obtain ⟨x, y, c, e, hx0, hx1, hy0, hy1, hc0, hcN⟩ := W.pot a pa
        have hσ : L2.start Nm [V.ref a, V.int k] = [some (.ref a), some (.int k), none, none, none] := by simp [L2.start, hN, List.replicate]
        rw [hσ]
        have fin : ∀ (d : Int) (H' : Hp), 0 ≤ d → d < k → (∀ b o, b ≠ a → H b = some o → H' b = some o) → PotOk N (H' a) → Q (.int d) H' := fun d H' h0 h1 kp po => by
          obtain ⟨ce, wo⟩ := pot_upd W pa kp po
          have := h d.toNat (by omega)
          refine this (.int d) H' F P ce wo ?_
          simp only [RV]
          congr 1
          omega
        obtain ⟨p0, p1, p2⟩ := IntE.p (K := K) (σ := [some (.ref a), some (.int k), none, none, none]) rfl e
        unfold takeR
        refine p0 _ ⟨x, 0, rfl, rfl, _, rfl, ?_⟩
        by_cases hx : 0 < x
        · rw [decide_eq_true hx]
          refine iteT ?_
          refine IntE.asg (IntE.op p0.i1 (IntE.var rfl) hk.1) ?_
          obtain ⟨p0', _, _⟩ := IntE.p (K := K) (σ := [some (.ref a), some (.int k), some (.int (x % k)), none, none]) rfl e
          refine IntE.asg (IntE.op p0' (IntE.var rfl) ⟨hk.1, hk.2⟩) ?_
          refine ⟨.ref a, rfl, a, _, 0, 0, rfl, rfl, e, rfl, ?_⟩
          refine IntE.ret (IntE.var rfl) ?_
          refine fin _ _ (Int.emod_nonneg _ (by omega)) (Int.emod_lt_of_pos _ hk.1) (fun b o hb q => by rw [upd_ne hb]; exact q) ⟨x / k, y, c, ?_, Int.ediv_nonneg hx0 (by omega), ?_, hy0, hy1, hc0, by omega⟩
          · rw [upd_same]; rfl
          · exact Int.lt_of_le_of_lt (Int.ediv_le_self _ hx0) hx1
        · rw [decide_eq_false hx]
          refine iteF ?_
          obtain ⟨p0', p1', p2'⟩ := IntE.p (K := K) (σ := [some (.ref a), some (.int k), none, none, none]) rfl e
          refine IntE.asg (IntE.op0 p2' IntE.c) ?_
          refine ⟨.ref a, rfl, a, _, 2, 2, rfl, rfl, e, rfl, ?_⟩
          have e1 : (upd H a (.lst ([V.int x, .int y, .int c].set 2 (.int (c + 1))))) a = some (.lst [.int x, .int y, .int (c + 1)]) := by rw [upd_same]; rfl
          generalize hH1 : upd H a (.lst ([V.int x, .int y, .int c].set 2 (.int (c + 1)))) = H1 at e1
          have kp1 : ∀ b o, b ≠ a → H b = some o → H1 b = some o := fun b o hb q => by rw [← hH1, upd_ne hb]; exact q
          have hc1 : 0 ≤ c + 1 := by omega
          have hcL : c + 1 ≤ LIM := by omega
          have bc := lim_bits hc1 hcL
          refine ⟨by rw [sizeLine_eq]; decide, fun p hp => ?_⟩
          have pne : p ≠ a := fun z => by rw [z, e1] at hp; cases hp
          have e2 : (upd H1 p (.lst [V.int 2147483647, .int 2147483629, .int 2147483587, .int 2147483579, .int 2147483563])) a = some (.lst [.int x, .int y, .int (c + 1)]) := by rw [upd_ne (Ne.symm pne)]; exact e1
          have e3 : (upd H1 p (.lst [V.int 2147483647, .int 2147483629, .int 2147483587, .int 2147483579, .int 2147483563])) p = some (.lst [V.int 2147483647, .int 2147483629, .int 2147483587, .int 2147483579, .int 2147483563]) := upd_same
          generalize hH2 : upd H1 p (.lst [V.int 2147483647, .int 2147483629, .int 2147483587, .int 2147483579, .int 2147483563]) = H2 at e2 e3
          have kp2 : ∀ b o, b ≠ a → H b = some o → H2 b = some o := fun b o hb q => by
            rw [← hH2, upd_ne (fun z => by rw [← z] at hp; rw [kp1 b o hb q] at hp; cases hp)]; exact kp1 b o hb q
          have q0 : ∀ m n o, IntE (tP K 0) [some (.ref a), some (.int k), m, n, o] H2 x ∧ IntE (tP K 1) [some (.ref a), some (.int k), m, n, o] H2 y ∧ IntE (tP K 2) [some (.ref a), some (.int k), m, n, o] H2 (c + 1) := fun m n o => IntE.p rfl e2
          -- which prime
          refine IntE.op (C := fun _ j => 0 < j) (g := fun i j => i % j) (IntE.i1 (q0 none none none).2.2) IntE.c (by decide) _ ?_
          have hr : ∃ pr : Int, 0 < pr ∧ pr < 2 ^ 31 ∧ L2.atI [V.int 2147483647, .int 2147483629, .int 2147483587, .int 2147483579, .int 2147483563] ((c + 1) % 5) = some (.int pr) := by
            have h0 := Int.emod_nonneg (c + 1) (show (5 : Int) ≠ 0 by decide)
            have h1 := Int.emod_lt_of_pos (c + 1) (show (0 : Int) < 5 by decide)
            generalize (c + 1) % 5 = m at h0 h1
            have : m = 0 ∨ m = 1 ∨ m = 2 ∨ m = 3 ∨ m = 4 := by omega
            rcases this with rfl | rfl | rfl | rfl | rfl
            · exact ⟨2147483647, by decide, by decide, rfl⟩
            · exact ⟨2147483629, by decide, by decide, rfl⟩
            · exact ⟨2147483587, by decide, by decide, rfl⟩
            · exact ⟨2147483579, by decide, by decide, rfl⟩
            · exact ⟨2147483563, by decide, by decide, rfl⟩
          obtain ⟨pr, pr0, pr1, epr⟩ := hr
          refine ⟨p, _, _, .int pr, rfl, rfl, .of e3, epr, ?_⟩
          -- the mixture
          have b1 : (93251 : Int).natAbs < 2 ^ 17 := by decide
          have b2 : (93251 * (c + 1)).natAbs < 2 ^ 100018 := abs_mul (a := 17) b1 bc rfl
          have b3 : (93251 * (c + 1) * (c + 1)).natAbs < 2 ^ 200019 := abs_mul (a := 100018) b2 bc rfl
          have by' : y.natAbs < 2 ^ 61 := by
            have : (2 : Nat) ^ 61 = 2305843009213693952 := by decide
            omega
          have b4 : (y + 93251 * (c + 1) * (c + 1)).natAbs < 2 ^ 200020 := abs_add (abs_le by' (by decide)) b3 rfl
          have b5 : (y + 93251 * (c + 1) * (c + 1) + 4177).natAbs < 2 ^ 200021 := abs_add b4 (abs_le (a := 13) (by decide) (by decide)) rfl
          refine IntE.asg (IntE.op (IntE.i1 (IntE.op (IntE.i1 (IntE.op0 (IntE.op0 (q0 _ _ _).2.1 (IntE.op (IntE.op IntE.c (q0 _ _ _).2.2 ?m1) (q0 _ _ _).2.2 ?m2)) IntE.c)) IntE.c ?m3)) (IntE.var rfl) pr0) ?_
          case m1 => exact mulW b1 bc (by decide) (by decide) (by decide)
          case m2 => exact mulW b2 bc (by decide) (by decide) (by decide)
          case m3 =>
            refine ⟨by decide, ?_⟩
            have := bits_of (by decide) b5
            omega
          generalize hm : (y + 93251 * (c + 1) * (c + 1) + 4177) ^ (3 : Int).toNat % pr = mx
          have hm0 : 0 ≤ mx := by rw [← hm]; exact Int.emod_nonneg _ (by omega)
          have hm1 : mx < pr := by rw [← hm]; exact Int.emod_lt_of_pos _ pr0
          have bm : mx.natAbs < 2 ^ 31 := by omega
          have b6 : (433 * (c + 1)).natAbs < 2 ^ 100010 := abs_mul (a := 9) (by decide) bc rfl
          have b7 : (mx % 12907).natAbs < 2 ^ 14 := by
            have h0 := Int.emod_nonneg mx (show (12907 : Int) ≠ 0 by decide)
            have h1 := Int.emod_lt_of_pos mx (show (0 : Int) < 12907 by decide)
            omega
          have b8 : (mx % 12907 + 433 * (c + 1)).natAbs < 2 ^ 100011 := abs_add (abs_le b7 (by decide)) b6 rfl
          refine IntE.asg (IntE.op (IntE.i1 (IntE.op (IntE.var rfl) (IntE.op0 (IntE.op (IntE.i1 (IntE.var rfl)) IntE.c (by decide)) (IntE.op IntE.c (q0 _ _ _).2.2 ?m4)) ?m5)) IntE.c (by decide)) ?_
          case m4 => exact mulW (a := 9) (by decide) bc (by decide) (by decide) (by decide)
          case m5 => exact mulW bm b8 (by decide) (by decide) (by decide)
          refine IntE.ret (IntE.op (IntE.i1 (IntE.op (IntE.var rfl) IntE.c ⟨by decide, by decide⟩)) (IntE.var rfl) hk.1) ?_
          exact fin _ _ (Int.emod_nonneg _ (by omega)) (Int.emod_lt_of_pos _ hk.1) kp2 ⟨x, y, c + 1, e2, hx0, hx1, hy0, hy1, hc1, by omega⟩
    · exact h.elim
  · exact h.elim
end

/-! ### a new list of three ints as a pot -/
def potG : List D → T D
  | [.scr _, .int p] => if 0 ≤ p ∧ p < 1000 then .ret .pot else .fail
  | _ => .fail
/-- g makes a pot -/
def MakesPot (g : List D → T D) : Prop := ∀ (ns : List Int) (p : Int), 0 ≤ p → p < 1000 → ∃ x y : Int, g [.scr ns, .int p] = .ret (.lst [.int x, .int y, .int 0]) ∧ 0 ≤ x ∧ x < 10 ^ 300 ∧ 0 ≤ y ∧ y < 2305843009213693952
theorem to_pot {K : PySem.W.Frag} {g : List D → T D} (hg : MakesPot g) {vs : List V} {H : Hp} {Q : VK} {E : XK} (h : spM K potG 2 vs H Q E) : spM K g 2 vs H Q E := by
  obtain ⟨N, F, P, ds, hl, r, W, h⟩ := h
  unfold potG at h
  split at h
  · rename_i ns p
    split at h
    · rename_i hp
      obtain ⟨x, y, eg, hx0, hx1, hy0, hy1⟩ := hg ns p hp.1 hp.2
      obtain ⟨v, vr, rfl, r1, rr⟩ := r.uncons
      obtain ⟨u, ur, rfl, r2, rr2⟩ := rr.uncons
      have r1' : RV K (fun _ => False) P H (.scr ns) v := by simpa only [RV] using r1
      have r2' : RV K (fun _ => False) P H (.int p) u := by simpa only [RV] using r2
      have rr2' := rr2.unnil
      subst rr2'
      refine ⟨N, fun _ => False, P, [.scr ns, .int p], hl, .cons r1' (.cons r2' .nil), ⟨fun a f => f.elim, W.pot, fun a f => f.elim, W.nle⟩, ?_⟩
      rw [eg]
      intro w H' F' P' C W' rv
      simp only [RV] at rv
      obtain ⟨a, xs, rfl, fa, ha, rs⟩ := rv
      have h0 : H a = none := (C.newF a fa).elim (fun z => z.elim) id
      simp only [RVs, RV] at rs
      obtain ⟨_, _, rfl, rfl, _, _, rfl, rfl, _, _, rfl, rfl, rfl⟩ := rs
      have np' : ¬ P' a := W'.dis a fa
      refine h (.ref a) H' F (fun b => P' b ∨ b = a) ⟨fun _ h => h, fun b h => .inl (C.pP b h), C.keep, fun _ h => .inl h, fun b h => ?_⟩ ⟨fun b f => ?_, fun b q => ?_, fun b f q => ?_, W'.nle⟩ ?_
      · rcases h with h | rfl
        · exact C.newP b h
        · exact .inr h0
      · obtain ⟨o, e⟩ := W.trF b f
        exact ⟨o, C.keep b o e (W.dis b f)⟩
      · rcases q with q | rfl
        · exact W'.pot b q
        · exact ⟨x, y, 0, ha, hx0, hx1, hy0, hy1, by omega, by have := W'.nle; omega⟩
      · obtain ⟨o, e⟩ := W.trF b f
        rcases q with q | rfl
        · rcases C.newP b q with z | z
          · exact W.dis b f z
          · rw [e] at z; cases z
        · rw [e] at h0; cases h0
      · simp only [RV]
        exact ⟨a, rfl, .inr rfl⟩
    · exact h.elim
  · exact h.elim
end Mi
set_option Elab.async false
set_option linter.all false
set_option maxRecDepth 100000
set_option maxHeartbeats 2000000
namespace Mi
open PySem PySem.Spec PyProof.Rows L2

section
variable {K : PySem.W.Frag} {Z : Fr} {N N' N'' : Nat} {F P F' P' F'' P'' : Addr → Prop} {env env' env'' e0 : Ev} {σ : L2.St} {H H' H'' H0 : Hp} {F0 P0 : Addr → Prop}
/-- slots are frozen ahead: nothing happens in the text -/
def frzAll : List Nat → Ev → Ev
  | [], e => e
  | i :: is, e => match e[i]? with
    | some (some (true, d)) => frzAll is (e.set i (some (false, d)))
    | _ => frzAll is e
def eFrz (is : List Nat) (m : M) : M := fun env => m (frzAll is env)
theorem frzAll_ok : ∀ {is : List Nat} {env : Ev} {F : Addr → Prop}, Ext σ e0 F0 P0 H0 env F P H → StR K Z N F P env σ H → ∃ F', Ext σ e0 F0 P0 H0 (frzAll is env) F' P H ∧ StR K Z N F' P (frzAll is env) σ H
  | [], env, F, E, S => ⟨F, E, S⟩
  | i :: is, env, F, E, S => by
    unfold frzAll
    split
    · rename_i d e
      obtain ⟨a, ea, _⟩ := S.ow i d e
      obtain ⟨F', E', S', _⟩ := RH.freeze (h := .slot i) (v := .ref a) (d := d) E S trivial ⟨ea, _, _, e⟩ (show fz env (.slot i) = some (d, env.set i (some (false, d))) by simp only [Mi.fz, e])
      exact frzAll_ok E' S'
    · exact frzAll_ok E S
theorem eFrz_ok {is : List Nat} {m : M} {Q : VK} (h : tM K Z (eFrz is m) σ H Q) : tM K Z m σ H Q := by
  obtain ⟨N, F, P, env, S, h⟩ := h
  obtain ⟨F', E', S'⟩ := frzAll_ok (is := is) Ext.refl S
  exact ⟨N, F', P, _, S', T.ok_mono (fun N1 r1 q1 => Post.from (r := r1) E' q1) h⟩
/-! ### not, as a value -/
def eNotV (m : M) : M := fun env => (m env).bind fun r => match r.1 with
  | .val (.bl b) => .ret (.val (.bl (!b)), r.2)
  | _ => .fail
theorem eNotV_ok {m : M} {Q : VK} (h : tM K Z (eNotV m) σ H Q) : tNotV (tM K Z m) σ H Q := by
  obtain ⟨N, F, P, env, S, h⟩ := h
  refine ⟨N, F, P, env, S, T.ok_mono (fun N1 r1 q1 => ?_) (T.ok_bind h)⟩
  intro v H1 F1 P1 E1 S1 R1 Y1
  split at q1
  · rename_i b e
    rw [e] at R1
    have R1' : RV K F1 P1 H1 (.bl b) v := R1
    simp only [RV] at R1'
    exact ⟨b, R1', q1 (.bl (!b)) H1 F1 P1 E1 S1 (by show RV K F1 P1 H1 (.bl _) _; simp only [RV]) trivial⟩
  · exact q1.elim
/-! ### (*a, b) -/
def hStar (m : M) (ms : MH) : MH := fun env => (m env).bind fun r1 => match fz r1.2 r1.1 with
  | some (d, env1) => match walkD d with
    | some l => (ms env1).bind fun r2 => .ret (l.map .val ++ r2.1, r2.2)
    | none => .fail
  | none => .fail
theorem RHs.vals {l : List D} {xs : List V} (r : RVs K F P H l xs) : ∀ {hs : List Hd} {vs : List V}, RHs K Z F P env σ H hs vs → RHs K Z F P env σ H (l.map .val ++ hs) (xs ++ vs) := by
  induction l generalizing xs with
  | nil => intro hs vs h; rw [r.unnil]; exact h
  | cons d l ih =>
    intro hs vs h
    obtain ⟨v, vr, rfl, r1, rr⟩ := r.uncons
    exact ⟨v, _, rfl, r1, ih rr h⟩
theorem Youngs.vals {l : List D} {xs : List V} (hl : xs.length = l.length) : ∀ {hs : List Hd} {vs : List V}, Youngs H hs vs → Youngs H (l.map .val ++ hs) (xs ++ vs) := by
  induction l generalizing xs with
  | nil => intro hs vs h; cases xs with | nil => exact h | cons _ _ => simp at hl
  | cons d l ih => intro hs vs h; cases xs with | nil => simp at hl | cons x xs => exact ⟨trivial, ih (by simpa using hl) h⟩
theorem Apart.vals {l : List D} {xs : List V} (hl : xs.length = l.length) : ∀ {hs : List Hd} {vs : List V}, Apart hs vs → Apart (l.map .val ++ hs) (xs ++ vs) := by
  induction l generalizing xs with
  | nil => intro hs vs h; cases xs with | nil => exact h | cons _ _ => simp at hl
  | cons d l ih => intro hs vs h; cases xs with | nil => simp at hl | cons x xs => exact ih (by simpa using hl) h
theorem hStar_ok {m : M} {ms : MH} {Q : List V → Hp → Prop} (h : tH K Z (hStar m ms) σ H Q) : StX.tStar K (tM K Z m) (tH K Z ms) σ H Q := by
  obtain ⟨N, F, P, env, S, h⟩ := h
  refine ⟨N, F, P, env, S, T.ok_mono (fun N1 r1 q1 => ?_) (T.ok_bind h)⟩
  intro v H1 F1 P1 E1 S1 R1 Y1
  split at q1
  · rename_i d env1 e1
    obtain ⟨F2, E2, S2, rv⟩ := R1.freeze E1 S1 Y1 e1
    split at q1
    · rename_i l e2
      obtain ⟨a, b, xs, rfl, rs, st⟩ := rv.walk e2
      refine ⟨a, xs, rfl, ?_, N1, F2, P1, env1, S2, T.ok_mono (fun N2 r2 q2 => ?_) (T.ok_bind q1)⟩
      · have := st.at
        cases b with
        | true => exact .inr this
        | false => exact .inl this
      · intro vs H2 F3 P3 E3 S3 R3 Y3 A3
        have rs3 := rs.mono (E3.mon S2)
        exact q2 (xs ++ vs) H2 F3 P3 (E2.trans E3) S3 (RHs.vals rs3 R3) (Youngs.vals rs.length (Y3.back E2)) (Apart.vals rs.length A3)
    · exact q1.elim
  · exact q1.elim
/-- displays whose length is seen when they are made -/
def hFew (ms : MH) : MH := fun env => (ms env).bind fun r => if r.1.length ≤ 16777216 then .ret r else .fail
theorem eTupS_ok {ms : MH} {Q : VK} (h : tM K Z (eTup (hFew ms)) σ H Q) : tTup (tH K Z ms) σ H Q := by
  obtain ⟨N, F, P, env, S, h⟩ := h
  refine ⟨N, F, P, env, S, T.ok_mono (fun N1 r1 q1 => ?_) (T.ok_bind (T.ok_bind h))⟩
  intro vs H1 F1 P1 E1 S1 R1 Y1 A1
  split at q1
  · rename_i hz
    have q1' := T.ok_bind (t := .ret r1) q1
    change (match fzs r1.2 r1.1 with | some (ds, env') => (T.ret (Hd.val (.tup ds), env') : T (Hd × Ev)) | none => .fail).ok N1 _ at q1
    split at q1
    · rename_i ds env1 e1
      obtain ⟨F2, E2, S2, rv⟩ := R1.freeze E1 S1 Y1 e1
      refine ⟨by rw [R1.length]; exact sz hz, fun p hp => ?_⟩
      refine q1 (.ref p) _ F2 P1 (E2.trans (Ext.alloc hp)) (S2.alloc hp) ?_ trivial
      show RV K F2 P1 (upd H1 p (.tup vs)) (.tup ds) (.ref p)
      simp only [RV]
      exact ⟨p, vs, rfl, upd_same, rv.alloc hp⟩
    · exact q1.elim
  · exact q1.elim
theorem eLstS_ok {ms : MH} {Q : VK} (h : tM K Z (eLst (hFew ms)) σ H Q) : tLst (tH K Z ms) σ H Q := by
  obtain ⟨N, F, P, env, S, h⟩ := h
  refine ⟨N, F, P, env, S, T.ok_mono (fun N1 r1 q1 => ?_) (T.ok_bind (T.ok_bind h))⟩
  intro vs H1 F1 P1 E1 S1 R1 Y1 A1
  split at q1
  · rename_i hz
    change (match fzs r1.2 r1.1 with | some (ds, env') => (T.ret (Hd.tmp (.lst ds), env') : T (Hd × Ev)) | none => .fail).ok N1 _ at q1
    split at q1
    · rename_i ds env1 e1
      obtain ⟨F2, E2, S2, rv⟩ := R1.freeze E1 S1 Y1 e1
      refine ⟨by rw [R1.length]; exact sz hz, fun p hp => ?_⟩
      obtain ⟨nF, nP, nO, h0⟩ := S2.noneF hp
      refine q1 (.ref p) _ F2 P1 (E2.trans (Ext.alloc hp)) (S2.alloc hp) ⟨p, rfl, ⟨vs, upd_same, rv.alloc hp⟩, nF, nP, nO, h0⟩ ?_
      exact Young.back (h := .tmp (.lst ds)) E2 ⟨p, rfl, hp⟩
    · exact q1.elim
  · exact q1.elim
/-! ### list(range), tuple(range) -/
def eListRg (ms : MH) : M := fun env => (iRng ms env).bind fun r => .ret (.tmp (.lst r.1), r.2)
def eTupRg (ms : MH) : M := fun env => (iRng ms env).bind fun r => .ret (.val (.tup r.1), r.2)
end
end Mi
set_option Elab.async false
set_option linter.all false
set_option maxRecDepth 100000
set_option maxHeartbeats 2000000
namespace Mi
open PySem PySem.Spec PyProof.Rows L2

section
variable {K : PySem.W.Frag} {Z : Fr} {N N' N'' : Nat} {F P F' P' F'' P'' : Addr → Prop} {env env' env'' e0 : Ev} {σ : L2.St} {H H' H'' H0 : Hp} {F0 P0 : Addr → Prop}
theorem RVs.rg {a b : Int} : RVs K F P H (rgD a b) (rgV a b) := by
  unfold rgD rgV
  exact rvs_map fun t _ => by simp only [RV]
def rgH (mk : List D → Hd) (a b : Int) : Option Hd := if rgOk a b then some (mk (rgD a b)) else none
def eRg1 (mk : List D → Hd) (m : M) : M := fun env => (m env).bind fun r => match r.1 with
  | .val (.int n) => match rgH mk 0 n with
    | some h => .ret (h, r.2)
    | none => .fail
  | _ => .fail
def eRg2 (mk : List D → Hd) (ma mb : M) : M := fun env => (ma env).bind fun r1 => match r1.1 with
  | .val (.int i) => (mb r1.2).bind fun r2 => match r2.1 with
    | .val (.int j) => match rgH mk i j with
      | some h => .ret (h, r2.2)
      | none => .fail
    | _ => .fail
  | _ => .fail
def mkL (l : List D) : Hd := .tmp (.lst l)
def mkT (l : List D) : Hd := .val (.tup l)
theorem rgL {a b : Int} {h : Hd} {Q : VK} (e : rgH mkL a b = some h) (res : ResK K F P H h Q) : RgOk a b ∧ ∀ q, H q = none → Q (.ref q) (L2.upd H q (.lst (rgV a b))) := by
  unfold rgH at e
  split at e
  · rename_i ok
    cases e
    exact ⟨rgOk_of ok, fun q hq => res q _ _ rfl RVs.rg hq⟩
  · cases e
theorem rgT {a b : Int} {h : Hd} {Q : VK} (e : rgH mkT a b = some h) (res : ResK K F P H h Q) : RgOk a b ∧ ∀ q, H q = none → Q (.ref q) (L2.upd H q (.tup (rgV a b))) := by
  unfold rgH at e
  split at e
  · rename_i ok
    cases e
    exact ⟨rgOk_of ok, fun q hq => res.2 q _ _ rfl RVs.rg hq⟩
  · cases e
theorem rgH_ns {mk : List D → Hd} (hm : ∀ l, noSl (mk l) = true) {a b : Int} {h : Hd} (e : rgH mk a b = some h) : ∀ i, h ≠ .slot i := by
  unfold rgH at e
  split at e
  · cases e; exact noSl_ne (hm _)
  · cases e
theorem eRg1_ok {mk : List D → Hd} (hm : ∀ l, noSl (mk l) = true) {m : M} {Q : VK} {G : Int → Int → Hp → Prop} (hg : ∀ {F P : Addr → Prop} {H : Hp} {a b : Int} {h : Hd}, rgH mk a b = some h → ResK K F P H h Q → G a b H) (h : tM K Z (eRg1 mk m) σ H Q) : tRg1 (tM K Z m) σ H G := by
  obtain ⟨N, F, P, env, S, h⟩ := h
  refine ⟨N, F, P, env, S, T.ok_mono (fun N1 r1 q1 => ?_) (T.ok_bind h)⟩
  intro v H1 F1 P1 E1 S1 R1 Y1
  split at q1
  · rename_i n e
    rw [e] at R1
    have R1' : RV K F1 P1 H1 (.int n) v := R1
    simp only [RV] at R1'
    split at q1
    · rename_i h' e2
      exact ⟨n, R1', hg e2 (Post.res S1 (rgH_ns hm e2) (Post.from E1 q1))⟩
    · exact q1.elim
  · exact q1.elim
theorem eRg2_ok {mk : List D → Hd} (hm : ∀ l, noSl (mk l) = true) {ma mb : M} {Q : VK} {G : Int → Int → Hp → Prop} (hg : ∀ {F P : Addr → Prop} {H : Hp} {a b : Int} {h : Hd}, rgH mk a b = some h → ResK K F P H h Q → G a b H) (h : tM K Z (eRg2 mk ma mb) σ H Q) : tRg2 (tM K Z ma) (tM K Z mb) σ H G := by
  obtain ⟨N, F, P, env, S, h⟩ := h
  refine ⟨N, F, P, env, S, T.ok_mono (fun N1 r1 q1 => ?_) (T.ok_bind h)⟩
  intro v H1 F1 P1 E1 S1 R1 Y1
  split at q1
  · rename_i i e
    rw [e] at R1
    have R1' : RV K F1 P1 H1 (.int i) v := R1
    simp only [RV] at R1'
    refine ⟨N1, F1, P1, r1.2, S1, T.ok_mono (fun N2 r2 q2 => ?_) (T.ok_bind q1)⟩
    intro u H2 F2 P2 E2 S2 R2 Y2
    split at q2
    · rename_i j e2
      rw [e2] at R2
      have R2' : RV K F2 P2 H2 (.int j) u := R2
      simp only [RV] at R2'
      split at q2
      · rename_i h' e3
        exact ⟨i, j, R1', R2', hg e3 (Post.res S2 (rgH_ns hm e3) (Post.from (E1.trans E2) q2))⟩
      · exact q2.elim
    · exact q2.elim
  · exact q1.elim
end
section
variable {X : Cx} {Z : Fr} {k : Nat}
/-! ### the rules: expressions -/
theorem m_var (i : Nat) {x : Str} {pos : Pos} (hN : X.N[i]? = some x := by rfl) (hv : Vis X.env.scope x := by first | exact Or.inl rfl | exact Or.inr (Or.inl rfl) | exact Or.inr (Or.inr rfl)) (hd : (x == ("__debug__" : Str)) = false := by decide) (hcd : (x == ("__classdict__" : Str)) = false := by decide) :
    PE X (.Name x pos) (tM X.K Z (eVar i)) := PE.imp (pe_var hN hv hd hcd) fun _ _ _ => eVar_ok
theorem m_int {i : Int} {j : Nat} {pos : Pos} : PE X (.Constant (.int i) j pos) (tM X.K Z (eC (.int i))) := PE.imp pe_int fun _ _ _ => eC_ok fun _ _ _ => by simp only [RV]
theorem m_bl {b : Bool} {j : Nat} {pos : Pos} : PE X (.Constant (.bool b) j pos) (tM X.K Z (eC (.bl b))) := PE.imp pe_bl fun _ _ _ => eC_ok fun _ _ _ => by simp only [RV]
theorem m_non {j : Nat} {pos : Pos} : PE X (.Constant .none j pos) (tM X.K Z (eC .non)) := PE.imp pe_non fun _ _ _ => eC_ok fun _ _ _ => by simp only [RV]
theorem m_str {x : Str} {j : Nat} {pos : Pos} (l : List Nat) (h : x = ⟨l.toArray⟩ := by rfl) : PE X (.Constant (.str x) j pos) (tM X.K Z (eC (.str l))) := PE.imp pe_str fun _ _ _ => eC_ok fun _ _ _ => by simp only [RV]; rw [h]
/-- a module's own constant -/
def CAt (mg : Str → Option Value) (x : Str) (d : D) : Prop := ∃ u v, mg x = some u ∧ RelV v u ∧ ∀ K F P H, RV K F P H d v
theorem m_glob {x : Str} {d : D} {pos : Pos} (c : CAt X.mg x d) (hg : Gl X x := by rfl) (hd : (x == ("__debug__" : Str)) = false := by decide) : PE X (.Name x pos) (tM X.K Z (eC d)) := by
  obtain ⟨u, v, hm, r, rv⟩ := c
  exact PE.imp (pe_glob hg hm r hd) fun _ _ _ => eC_ok fun F P H => rv _ F P H
section
variable {a b c : Expr} {ma mb mc : M} {pos : Pos}
theorem m_op {op : Operator} {g : D → D → Option Hd} (ho : OpR X (binaryOp op) (rD X.K g)) (n : NS2 g) (ha : PE X a (tM X.K Z ma)) (hb : PE X b (tM X.K Z mb)) : PE X (.BinOp a op b pos) (tM X.K Z (eOp g ma mb)) :=
  PE.imp (pe_op ho ha hb) fun _ _ _ => eOp_ok (op2_rD n)
theorem m_cmp {op : CmpOp} {g : D → D → Option Hd} (ho : OpR X (compareOp op) (rD X.K g)) (n : NS2 g) (ha : PE X a (tM X.K Z ma)) (hb : PE X b (tM X.K Z mb)) (hm : behindInMarks op b = false) : PE X (.Compare a [op] [b] pos) (tM X.K Z (eOp g ma mb)) :=
  PE.imp (pe_cmpR ho ha hb hm) fun _ _ _ => eOp_ok (op2_rD n)
theorem m_chain {op op' : CmpOp} {g g' : D → D → Option Hd} (ho : OpR X (compareOp op) (rD X.K g)) (n : NS2 g) (ho' : OpR X (compareOp op') (rD X.K g')) (n' : NS2 g') (ha : PE X a (tM X.K Z ma)) (hb : PE X b (tM X.K Z mb)) (hc : PE X c (tM X.K Z mc)) (hm : lastMarks [op, op'] [b, c] = false := by with_unfolding_all rfl) :
    PE X (.Compare a [op, op'] [b, c] pos) (tM X.K Z (eChain g g' ma mb mc)) := PE.imp (pe_chain ho ho' ha hb hc hm) fun _ _ _ => eChain_ok (op2_rD n) (op2_rD n')
theorem m_un {op : UnaryOp} {g : D → Option Hd} (ho : UnR X (unaryOp op) (rD1 X.K g)) (n : NS1 g) (ha : PE X a (tM X.K Z ma)) : PE X (.UnaryOp op a pos) (tM X.K Z (eUn g ma)) := PE.imp (pe_un ho ha) fun _ _ _ => eUn_ok (op1_rD n)
theorem m_not (ha : PE X a (tM X.K Z ma)) : PE X (.UnaryOp .Not a pos) (tM X.K Z (eNotV ma)) := PE.imp (pe_not ha) fun _ _ _ => eNotV_ok
theorem m_one {op : BoolOp} (ha : PE X a (tM X.K Z ma)) : PE X (.BoolOp op [a] pos) (tM X.K Z ma) := pe_one ha
theorem m_and {rest : List Expr} (ha : PE X a (tM X.K Z ma)) (hb : PE X (.BoolOp .And (b :: rest) pos) (tM X.K Z mb)) : PE X (.BoolOp .And (a :: b :: rest) pos) (tM X.K Z (eAnd ma mb)) := PE.imp (pe_and ha hb) fun _ _ _ => eAnd_ok
theorem m_or {rest : List Expr} (ha : PE X a (tM X.K Z ma)) (hb : PE X (.BoolOp .Or (b :: rest) pos) (tM X.K Z mb)) : PE X (.BoolOp .Or (a :: b :: rest) pos) (tM X.K Z (eOr ma mb)) := PE.imp (pe_or ha hb) fun _ _ _ => eOr_ok
theorem m_if {t : MT} (hc : PT X c (tT X.K Z t)) (ha : PE X a (tM X.K Z ma)) (hb : PE X b (tM X.K Z mb)) : PE X (.IfExp c a b pos) (tM X.K Z (eIf t ma mb)) := PE.imp (pe_ifExp hc ha hb) fun _ _ _ => eIf_ok
theorem m_ix (ha : PE X a (tM X.K Z ma)) (hb : PE X b (tM X.K Z mb)) (hs : PlainIx b := by intro _ _; rfl) : PE X (.Subscript a b pos) (tM X.K Z (eOp gIx ma mb)) := PE.imp (pe_ix ix_M ha hb hs) fun _ _ _ => eOp_ok (op2_rD gIx_ns)
theorem o_none : PO X none (tO X.K Z oNone) := PO.imp po_none fun h => oNone_ok h
theorem o_some (ha : PE X a (tM X.K Z ma)) : PO X (some a) (tO X.K Z (oSome ma)) := PO.imp (po_some ha) fun h => oSome_ok h
theorem m_sl {lo hi : Option Expr} {ml mh : MO} {p2 : Pos} (ha : PE X a (tM X.K Z ma)) (hl : PO X lo (tO X.K Z ml)) (hh : PO X hi (tO X.K Z mh)) : PE X (.Subscript a (.Slice lo hi none p2) pos) (tM X.K Z (eSl ma ml mh)) := PE.imp (pe_slice sl_M ha hl hh) fun _ _ _ => eSl_ok
/-! ### arguments, displays -/
theorem a_nil : PA X [] (tH X.K Z hNil) := PA.imp pa_nil fun _ _ _ => hNil_ok
theorem a_cons {es : List Expr} {ms : MH} (ha : PE X a (tM X.K Z ma)) (hr : PA X es (tH X.K Z ms)) (hs : starEach (a :: es) X.env = (false, eval a X.env) :: starEach es X.env := by rfl) : PA X (a :: es) (tH X.K Z (hCons ma ms)) := PA.imp (pa_cons ha hr hs) fun _ _ _ => hCons_ok
theorem a_star {es : List Expr} {ms : MH} {p : Pos} (ha : PE X a (tM X.K Z ma)) (hr : PA X es (tH X.K Z ms)) (hs : starEach (.Starred a p :: es) X.env = (true, eval a X.env) :: starEach es X.env := by rfl) : PA X (.Starred a p :: es) (tH X.K Z (hStar ma ms)) := PA.imp (StX.pa_star ha hr hs) fun _ _ _ => hStar_ok
theorem m_tup {es : List Expr} {ms : MH} {x1 : Nat} {n : Nat} (h : PA X es (tH X.K Z ms)) (hn : HLen n ms) (hz : n ≤ 1000 := by decide) : PE X (.Tuple es x1 pos) (tM X.K Z (eTup ms)) := PE.imp (pe_tup h) fun _ _ _ => eTup_ok hn (by rw [sizeLine_eq]; omega)
theorem m_lst {es : List Expr} {ms : MH} {n : Nat} (h : PA X es (tH X.K Z ms)) (hn : HLen n ms) (hz : n ≤ 1000 := by decide) : PE X (.List es pos) (tM X.K Z (eLst ms)) := PE.imp (pe_lst h) fun _ _ _ => eLst_ok hn (by rw [sizeLine_eq]; omega)
theorem m_tupS {es : List Expr} {ms : MH} {x1 : Nat} (h : PA X es (tH X.K Z ms)) : PE X (.Tuple es x1 pos) (tM X.K Z (eTup (hFew ms))) := PE.imp (pe_tup h) fun _ _ _ => eTupS_ok
theorem m_lstS {es : List Expr} {ms : MH} (h : PA X es (tH X.K Z ms)) : PE X (.List es pos) (tM X.K Z (eLst (hFew ms))) := PE.imp (pe_lst h) fun _ _ _ => eLstS_ok
end
/-! ### calls -/
/-- a def of the text, as it is known -/
def Has (Pg : Program) (w : World) (K : PySem.W.Frag) (mg : Str → Option Value) (base : Heap) (k : Nat) (x : Str) (np : Nat) (g : List D → T D) : Prop :=
  ∃ f fd ps, mg x = some (.ref f) ∧ PySem.W.keepIn K (.ref f) = true ∧ Binds K fd ps [] ∧ ps.length = np ∧ FnG Pg w K mg base k f fd ps (spM K g np)
theorem Has.mono {Pg : Program} {w : World} {K : PySem.W.Frag} {mg : Str → Option Value} {base : Heap} {k k' : Nat} {x : Str} {np : Nat} {g : List D → T D} (h : Has Pg w K mg base k x np g) (l : k ≤ k') : Has Pg w K mg base k' x np g := by
  obtain ⟨f, fd, ps, a, b, c, d, e⟩ := h
  exact ⟨f, fd, ps, a, b, c, d, e.mono l⟩
variable {e : Expr} {es : List Expr} {p pos : Pos} {x : Str} {ms : MH}
theorem m_call {np : Nat} {g : List D → T D} (h : Has X.prog X.w X.K X.mg X.base k x np g) (hr : GRoom k X.A) (hn : HLen np ms) (ha : PA X (e :: es) (tH X.K Z ms)) (hg : Gl X x := by rfl) (hdb : (x == ("__debug__" : Str)) = false := by decide)
    (he : starEach (e :: es) X.env = (false, eval e X.env) :: starEach es X.env := by rfl) (hpl : (backTo pos (starEach es X.env)).any (·.1) = false := by rfl) : PE X (.Call (.Name x p) (e :: es) [] pos) (tM X.K Z (eDef g ms)) := by
  obtain ⟨f, fd, ps, hm, hk, hb, hp, F⟩ := h
  exact PE.imp (pe_callG F hr hg hm hk hb ha hdb he hpl) fun _ _ _ => eDef_ok hn
theorem m_fn {id : String} {g : List D → Option Hd} (hc : CallR X (.builtin id) (rDN X.K g)) (n : NSN g) (hm : X.mg x = none) (hv : bootBuiltins x = some (.builtin id)) (ha : PA X (e :: es) (tH X.K Z ms)) (hg : Gl X x := by rfl) (hn : x ≠ "__name__" := by decide) (hdb : (x == ("__debug__" : Str)) = false := by decide)
    (he : starEach (e :: es) X.env = (false, eval e X.env) :: starEach es X.env := by rfl) (hpl : (backTo pos (starEach es X.env)).any (·.1) = false := by rfl) : PE X (.Call (.Name x p) (e :: es) [] pos) (tM X.K Z (eCall ms g)) :=
  PE.imp (pe_callB hc hg hm hv ha hn hdb he hpl) fun _ _ _ => eCall_ok (opN_rD n)
theorem m_ty {id : String} {g : List D → Option Hd} (hc : CallR X (.type id) (rDN X.K g)) (n : NSN g) (hm : X.mg x = none) (hv : bootBuiltins x = some (.type id)) (ha : PA X (e :: es) (tH X.K Z ms)) (hg : Gl X x := by rfl) (hn : x ≠ "__name__" := by decide) (hdb : (x == ("__debug__" : Str)) = false := by decide)
    (he : starEach (e :: es) X.env = (false, eval e X.env) :: starEach es X.env := by rfl) (hpl : (backTo pos (starEach es X.env)).any (·.1) = false := by rfl) : PE X (.Call (.Name x p) (e :: es) [] pos) (tM X.K Z (eCall ms g)) :=
  PE.imp (pe_callTy hc hg hm hv ha hn hdb he hpl) fun _ _ _ => eCall_ok (opN_rD n)
theorem m_isi {y : Str} {T' : String} {q : Pos} {m : M} (hm : X.mg "isinstance" = none) (hm2 : X.mg y = none) (hv : bootBuiltins y = some (.type T')) (ha : PE X e (tM X.K Z m)) (hg : Gl X "isinstance" := by rfl) (hg2 : Gl X y := by rfl) (hn : y ≠ "__name__" := by decide) (hdb : (y == ("__debug__" : Str)) = false := by decide)
    (he : starEach [e, .Name y q] X.env = (false, eval e X.env) :: starEach [.Name y q] X.env := by rfl) (hs2 : starEach [.Name y q] X.env = (false, eval (.Name y q) X.env) :: starEach [] X.env := by rfl) (hpl : (backTo pos (starEach [.Name y q] X.env)).any (·.1) = false := by rfl) :
    PE X (.Call (.Name "isinstance" p) [e, .Name y q] [] pos) (tM X.K Z (eIsi T' m)) :=
  PE.imp (pe_callB call_isi hg hm (by decide +kernel) (pa_cons ha (pa_cons (pe_bltn hg2 hm2 hv (v := .ty T') rfl hn hdb) pa_nil hs2) he) (by decide) (by decide) he hpl) fun _ _ _ => eIsi_ok
theorem m_rep {f : Bool → Bool} {op : CmpOp} {r : R2} {e2 : Expr} {m1 m2 : M} {p2 pos2 pos3 : Pos} (hop : OpR X (compareOp op) r) (hr : ∀ (x y : Str) (H : Hp) (Q : VK), Q (.bl (f (decide (x = y)))) H → r (.str x) (.str y) H Q) (hm : X.mg "repr" = none) (gr : GRoom k X.A) (h1 : PE X e (tM X.K Z m1)) (h2 : PE X e2 (tM X.K Z m2))
    (hmk : behindInMarks op (.Call (.Name "repr" p2) [e2] [] pos2) = false) (hg : Gl X "repr" := by rfl) (he : starEach [e] X.env = (false, eval e X.env) :: starEach [] X.env := by rfl) (he2 : starEach [e2] X.env = (false, eval e2 X.env) :: starEach [] X.env := by rfl) :
    PE X (.Compare (.Call (.Name "repr" p) [e] [] pos) [op] [.Call (.Name "repr" p2) [e2] [] pos2] pos3) (tM X.K Z (eRep f m1 m2)) := by
  have hc : CallR X (.builtin "repr") (rRep X.K) := call_reprM gr.g (by have := gr.r.un; have : DEEP = 40 := rfl; omega)
  exact PE.imp (pe_cmpR hop (pe_callB hc hg hm (by decide +kernel) (pa_cons h1 pa_nil he) (by decide) (by decide) he (by rfl)) (pe_callB hc hg hm (by decide +kernel) (pa_cons h2 pa_nil he2) (by decide) (by decide) he2 (by rfl)) hmk) fun _ _ _ => eRep_ok hr
theorem m_listRg1 {m : M} {p2 pos2 : Pos} (hl : X.mg "list" = none) (hm : X.mg "range" = none) (ha : PE X e (tM X.K Z m)) (hc : X.calm = true := by rfl) (g1 : Gl X "list" := by rfl) (g2 : Gl X "range" := by rfl) (na : starEach [e] X.env = (false, eval e X.env) :: starEach [] X.env := by rfl)
    (nb : starEach [.Call (.Name "range" p2) [e] [] pos2] X.env = (false, eval (.Call (.Name "range" p2) [e] [] pos2) X.env) :: starEach [] X.env := by rfl) : PE X (.Call (.Name "list" p) [.Call (.Name "range" p2) [e] [] pos2] [] pos) (tM X.K Z (eRg1 mkL m)) :=
  PE.imp (pe_listRg hc g1 hl (prg_1 g2 hm ha na) nb) fun _ _ _ h => eRg1_ok (fun _ => rfl) (fun e r => rgL e r) h
theorem m_listRg2 {e2 : Expr} {m m2 : M} {p2 pos2 : Pos} (hl : X.mg "list" = none) (hm : X.mg "range" = none) (ha : PE X e (tM X.K Z m)) (hb : PE X e2 (tM X.K Z m2)) (hc : X.calm = true := by rfl) (g1 : Gl X "list" := by rfl) (g2 : Gl X "range" := by rfl) (na : starEach [e, e2] X.env = (false, eval e X.env) :: starEach [e2] X.env := by rfl)
    (na2 : starEach [e2] X.env = (false, eval e2 X.env) :: starEach [] X.env := by rfl) (hp : (backTo pos2 (starEach [e2] X.env)).any (·.1) = false := by rfl)
    (nb : starEach [.Call (.Name "range" p2) [e, e2] [] pos2] X.env = (false, eval (.Call (.Name "range" p2) [e, e2] [] pos2) X.env) :: starEach [] X.env := by rfl) : PE X (.Call (.Name "list" p) [.Call (.Name "range" p2) [e, e2] [] pos2] [] pos) (tM X.K Z (eRg2 mkL m m2)) :=
  PE.imp (pe_listRg hc g1 hl (prg_2 g2 hm ha hb na na2 hp) nb) fun _ _ _ h => eRg2_ok (fun _ => rfl) (fun e r => rgL e r) h
theorem m_tupRg2 {e2 : Expr} {m m2 : M} {p2 pos2 : Pos} (hl : X.mg "tuple" = none) (hm : X.mg "range" = none) (ha : PE X e (tM X.K Z m)) (hb : PE X e2 (tM X.K Z m2)) (hc : X.calm = true := by rfl) (g1 : Gl X "tuple" := by rfl) (g2 : Gl X "range" := by rfl) (na : starEach [e, e2] X.env = (false, eval e X.env) :: starEach [e2] X.env := by rfl)
    (na2 : starEach [e2] X.env = (false, eval e2 X.env) :: starEach [] X.env := by rfl) (hp : (backTo pos2 (starEach [e2] X.env)).any (·.1) = false := by rfl)
    (nb : starEach [.Call (.Name "range" p2) [e, e2] [] pos2] X.env = (false, eval (.Call (.Name "range" p2) [e, e2] [] pos2) X.env) :: starEach [] X.env := by rfl) : PE X (.Call (.Name "tuple" p) [.Call (.Name "range" p2) [e, e2] [] pos2] [] pos) (tM X.K Z (eRg2 mkT m m2)) :=
  PE.imp (pe_tupRg hc g1 hl (prg_2 g2 hm ha hb na na2 hp) nb) fun _ _ _ h => eRg2_ok (fun _ => rfl) (fun e r => rgT e r) h
theorem m_tupRg1 {m : M} {p2 pos2 : Pos} (hl : X.mg "tuple" = none) (hm : X.mg "range" = none) (ha : PE X e (tM X.K Z m)) (hc : X.calm = true := by rfl) (g1 : Gl X "tuple" := by rfl) (g2 : Gl X "range" := by rfl) (na : starEach [e] X.env = (false, eval e X.env) :: starEach [] X.env := by rfl)
    (nb : starEach [.Call (.Name "range" p2) [e] [] pos2] X.env = (false, eval (.Call (.Name "range" p2) [e] [] pos2) X.env) :: starEach [] X.env := by rfl) : PE X (.Call (.Name "tuple" p) [.Call (.Name "range" p2) [e] [] pos2] [] pos) (tM X.K Z (eRg1 mkT m)) :=
  PE.imp (pe_tupRg hc g1 hl (prg_1 g2 hm ha na) nb) fun _ _ _ h => eRg1_ok (fun _ => rfl) (fun e r => rgT e r) h
/-! ### methods -/
theorem m_mut {r : V → List V → Hp → VK → Prop} {g : List D → List D → Option (List D × D)} {id : String} {name y : Str} {i : Nat} {apos q : Pos} (hr : OpMut X.K r g) (hmt : MtR X id r) (slot : PySem.Slot "list" name id) (hty : typeOf (.builtin id) = pure (.type "method_descriptor")) (ho : PE X (.Name y q) (tVar i)) (ha : PA X (e :: es) (tH X.K Z ms))
    (hbase : attributeBase (.Name y q) name X.env (eval (.Name y q) X.env) = eval (.Name y q) X.env := by rfl)
    (hfew : ((backTo pos (starEach (e :: es) X.env)).all (fun x => !x.1) && (backToKw pos (keywordEach [] X.env)).all (fun x => x.1.isSome) && decide ((e :: es).length + ([] : List Keyword).length + (if ([] : List Keyword).isEmpty then 0 else 1) < 30)) = true := by rfl)
    (hline : (apos.endLine == pos.line) = true := by rfl) (hs : starEach (e :: es) X.env = (false, eval e X.env) :: starEach es X.env := by rfl) (hplain : (backTo pos (starEach es X.env)).any (·.1) = false := by rfl) :
    PE X (.Call (.Attribute (.Name y q) name apos) (e :: es) [] pos) (tM X.K Z (eMut g i ms)) :=
  PE.imp (pe_bm PySem.F.plainAttrs_list slot hty hmt ho ha hbase hfew hline hs hplain) fun _ _ _ => eMut_ok hr
theorem m_mut0 {r : V → List V → Hp → VK → Prop} {g : List D → List D → Option (List D × D)} {id : String} {name y : Str} {i : Nat} {apos q : Pos} (hr : OpMut X.K r g) (hmt : MtR X id r) (slot : PySem.Slot "list" name id) (hty : typeOf (.builtin id) = pure (.type "method_descriptor")) (ho : PE X (.Name y q) (tVar i))
    (hbase : attributeBase (.Name y q) name X.env (eval (.Name y q) X.env) = eval (.Name y q) X.env := by rfl) (hline : (apos.endLine == pos.line) = true := by rfl) : PE X (.Call (.Attribute (.Name y q) name apos) [] [] pos) (tM X.K Z (eMut g i hNil)) :=
  PE.imp (pe_bm0 PySem.F.plainAttrs_list slot hty hmt ho hbase hline) fun _ _ _ => eMut0_ok hr
theorem m_mt {g : D → List D → Option Hd} {o : Expr} {m : M} {id : String} {name : Str} {apos : Pos} (hmt : MtR X id (rMtM X.K g)) (n : NSM g) (slot : PySem.Slot "list" name id) (hty : typeOf (.builtin id) = pure (.type "method_descriptor")) (ho : PE X o (tM X.K Z m)) (ha : PA X (e :: es) (tH X.K Z ms))
    (hbase : attributeBase o name X.env (eval o X.env) = eval o X.env := by rfl)
    (hfew : ((backTo pos (starEach (e :: es) X.env)).all (fun x => !x.1) && (backToKw pos (keywordEach [] X.env)).all (fun x => x.1.isSome) && decide ((e :: es).length + ([] : List Keyword).length + (if ([] : List Keyword).isEmpty then 0 else 1) < 30)) = true := by rfl)
    (hline : (apos.endLine == pos.line) = true := by rfl) (hs : starEach (e :: es) X.env = (false, eval e X.env) :: starEach es X.env := by rfl) (hplain : (backTo pos (starEach es X.env)).any (·.1) = false := by rfl) :
    PE X (.Call (.Attribute o name apos) (e :: es) [] pos) (tM X.K Z (eMt g m ms)) :=
  PE.imp (pe_bm PySem.F.plainAttrs_list slot hty hmt ho ha hbase hfew hline hs hplain) fun _ _ _ => eMt_ok n
/-! ### tests -/
theorem t_val {m : M} (h : PE X e (tM X.K Z m)) (he : ∀ whole, isTrue e X.env whole = (do let v ← whole; standAt e.pos; holding [v] (truthy v)) := by intro _; rfl) : PT X e (tT X.K Z (mTest m)) := PT.imp (pt_val h he) fun _ _ _ => mTest_ok
theorem t_cmp {op : CmpOp} {a b : Expr} {ma mb : M} {g : D → D → Option Hd} (ho : OpR X (compareOp op) (rD X.K g)) (n : NS2 g) (ha : PE X a (tM X.K Z ma)) (hb : PE X b (tM X.K Z mb)) (hm : behindInMarks op b = false) : PT X (.Compare a [op] [b] pos) (tT X.K Z (mTest (eOp g ma mb))) :=
  PT.imp (pt_cmpR ho ha hb hm) fun _ _ _ h => eOp_ok (op2_rD n) (mTest_ok h)
theorem t_chain {op op' : CmpOp} {a b c : Expr} {ma mb mc : M} {g g' : D → D → Option Hd} (ho : OpR X (compareOp op) (rD X.K g)) (n : NS2 g) (ho' : OpR X (compareOp op') (rD X.K g')) (n' : NS2 g') (ha : PE X a (tM X.K Z ma)) (hb : PE X b (tM X.K Z mb)) (hc : PE X c (tM X.K Z mc)) (hm : lastMarks [op, op'] [b, c] = false := by with_unfolding_all rfl) :
    PT X (.Compare a [op, op'] [b, c] pos) (tT X.K Z (mTest (eChain g g' ma mb mc))) := PT.imp (pt_chain ho ho' ha hb hc hm) fun _ _ _ h => eChain_ok (op2_rD n) (op2_rD n') (mTest_ok h)
theorem t_not {t : MT} (h : PT X e (tT X.K Z t)) : PT X (.UnaryOp .Not e pos) (tT X.K Z (mNot t)) := PT.imp (pt_not h) fun _ _ _ => mNot_ok
theorem w_one {t : MT} (h : PT X e (tT X.K Z t)) : PW X (.BoolOp .And [e] pos) (tT X.K Z t) := pw_and1 h
theorem w_one' {t : MT} (h : PT X e (tT X.K Z t)) : PW X (.BoolOp .Or [e] pos) (tT X.K Z t) := pw_or1 h
theorem PW.imp {e : Expr} {t t' : TT} (p : PW X e t) (h : ∀ σ H Q, t' σ H Q → t σ H Q) : PW X e t' := ⟨fun wh pins s σ H Q I hw => p.run wh pins s σ H Q I (h σ H Q hw)⟩
theorem w_and {b : Expr} {t u : MT} {rest : List Expr} (h : PT X e (tT X.K Z t)) (h' : PW X (.BoolOp .And (b :: rest) pos) (tT X.K Z u)) : PW X (.BoolOp .And (e :: b :: rest) pos) (tT X.K Z (mAnd t u)) := PW.imp (pw_and h h') fun _ _ _ => mAnd_ok
theorem w_or {b : Expr} {t u : MT} {rest : List Expr} (h : PT X e (tT X.K Z t)) (h' : PW X (.BoolOp .Or (b :: rest) pos) (tT X.K Z u)) : PW X (.BoolOp .Or (e :: b :: rest) pos) (tT X.K Z (mOr t u)) := PW.imp (pw_or h h') fun _ _ _ => mOr_ok
theorem t_tru {m : M} (h : PE X e (tM X.K Z m)) (he : ∀ whole, isTrue e X.env whole = (do let v ← whole; standAt e.pos; holding [v] (truthy v)) := by intro _; rfl) : PT X e (tT X.K Z (mTru m)) := PT.imp (pt_truth h he) fun _ _ _ => mTru_ok
/-! ### statements -/
def mYes : MT := fun env => .ret (true, env)
theorem mYes_ok {K : PySem.W.Frag} {σ : L2.St} {H : Hp} {Q : Bool → Hp → Prop} (h : tT K Z mYes σ H Q) : tYes σ H Q := by
  obtain ⟨N, F, P, env, S, h⟩ := h
  exact h H F P Ext.refl S
theorem ts_nil : PTs X [] (tT X.K Z mYes) := ⟨fun pins s σ H Q I hw => pts_nil.run pins s σ H Q I (mYes_ok hw)⟩
theorem ts_one {c : Expr} {t : MT} (h : PT X c (tT X.K Z t)) : PTs X [c] (tT X.K Z t) := pts_one h
theorem ss_nil : PSs X [] (sM X.K Z sNext) := PSs.imp pss_nil fun _ _ _ => sNext_ok
theorem ss_one {st : Stmt} {m : MS} (h : PS X st (sM X.K Z m)) : PSs X [st] (sM X.K Z m) := pss_one h
theorem ss_cons {st : Stmt} {rest : List Stmt} {m n : MS} (h : PS X st (sM X.K Z m)) (h' : PSs X rest (sM X.K Z n)) : PSs X (st :: rest) (sM X.K Z (sSeq m n)) := PSs.imp (pss_cons h h') fun _ _ _ => sSeq_ok
theorem s_if {c : Expr} {a b : List Stmt} {t : MT} {m n : MS} (hc : PT X c (tT X.K Z t)) (ha : PSs X a (sM X.K Z m)) (hb : PSs X b (sM X.K Z n)) : PS X (.If c a b pos) (sM X.K Z (sIf t m n)) := PS.imp (ps_if hc ha hb) fun _ _ _ => sIf_ok
theorem s_ret {m : M} (h : PE X e (tM X.K Z m)) : PS X (.Return (some e) pos) (sM X.K Z (sRet m)) := PS.imp (ps_ret h) fun _ _ _ => sRet_ok
theorem s_retN : PS X (.Return none pos) (sM X.K Z sRetN) := PS.imp ps_retN fun _ _ _ => sRetN_ok
theorem s_never {st : Stmt} : PS X st (sM X.K Z sNever) := PS.imp ps_never fun _ _ _ => sNever_ok
theorem s_break : PS X (.Break pos) (sM X.K Z sBreak) := PS.imp ps_break fun _ _ _ => sBreak_ok
theorem s_cont : PS X (.Continue pos) (sM X.K Z sCont) := PS.imp ps_continue fun _ _ _ => sCont_ok
theorem s_expr {m : M} (h : PE X e (tM X.K Z m)) (hs : swapsWith e none pos.line X.env = pure false := by rfl) : PS X (.Expr e pos) (sM X.K Z (sDrop m)) := PS.imp (ps_expr h hs) fun _ _ _ => sDrop_ok
theorem s_set {m : M} {i : Nat} {pos' : Pos} (nd : X.N.Nodup) (h : PE X e (tM X.K Z m)) (hi : X.N[i]? = some x := by rfl) (hx : Loc X.env.scope x := by first | exact Or.inl rfl | exact Or.inr rfl) (hs : swapsWith e (some (.Name x pos')) pos.line X.env = pure false := by rfl) (hf : X.fn x = true ∨ X.env.scope.names.lookup x = some .local := by first | exact .inl rfl | exact .inr rfl) :
    PS X (.Assign [.Name x pos'] e pos) (sM X.K Z (sSet i m)) := PS.imp (ps_set nd hi hx h hs hf) fun _ _ _ => sSet_ok
theorem s_store {m mi : M} {i : Nat} {y : Str} {a : Expr} {q q2 : Pos} (ho : PE X (.Name y q) (tVar i)) (ha : PE X a (tM X.K Z mi)) (h : PE X e (tM X.K Z m)) (hs : swapsWithSole [.Subscript (.Name y q) a q2] e pos.line X.env = pure false := by rfl) (hw : swappedStores [.Subscript (.Name y q) a q2] e X.env = pure none := by rfl)
    (h1 : (assignEach [.Subscript (.Name y q) a q2] X.env).map (·.2) = [assign (.Subscript (.Name y q) a q2) X.env] := by rfl)
    (hsub : ∀ v, assign (.Subscript (.Name y q) a q2) X.env v = (do
      let ov ← holding [v] (eval (.Name y q) X.env)
      let iv ← holding [v, ov] (eval a X.env)
      standAt q2
      holding [v, ov, iv] (setItem ov iv v)
      release [v, ov, iv] []) := by intro _; rfl) : PS X (.Assign [.Subscript (.Name y q) a q2] e pos) (sM X.K Z (sStore i mi m)) :=
  PS.imp (ps_asg h (pg_sub ho ha set_list hsub) hs hw h1) fun _ _ _ => sStore_ok
/-! ### targets, loops, comprehensions -/
/-- a target with the slots that it writes -/
structure GTo (X : Cx) (K : PySem.W.Frag) (tg : Expr) (t : TG) (g : GM) (sl : List Nat) : Prop where
  p : PG X tg t
  o : GOk K t g sl
structure GsTo (X : Cx) (K : PySem.W.Frag) (tg : List Expr) (t : TGs) (g : List D → Ev → Option Ev) (sl : List Nat) : Prop where
  p : PGs X tg t
  o : GsOk K t g sl
variable {K : PySem.W.Frag}
theorem g_name (i : Nat) (nd : X.N.Nodup) (hi : X.N[i]? = some x := by rfl) (hx : Loc X.env.scope x := by first | exact Or.inl rfl | exact Or.inr rfl) (hf : X.fn x = true ∨ X.env.scope.names.lookup x = some .local := by first | exact .inl rfl | exact .inr rfl) : GTo X K (.Name x pos) (gName i) (gNm i) [i] :=
  ⟨pg_name nd hi hx hf, gNm_ok⟩
theorem gs_nil : GsTo X K [] gNil gsNil [] := ⟨pgs_nil, gsNil_ok⟩
theorem gs_cons {tg : Expr} {ts : List Expr} {t : TG} {u : TGs} {g : GM} {gs : List D → Ev → Option Ev} {sl sls : List Nat} (h : GTo X K tg t g sl) (h' : GsTo X K ts u gs sls) (hs : (assignEach (tg :: ts) X.env).map (·.2) = assign tg X.env :: (assignEach ts X.env).map (·.2) := by rfl) : GsTo X K (tg :: ts) (gCons t u) (gsCons g gs) (sl ++ sls) :=
  ⟨pgs_cons h.p h'.p hs, gsCons_ok h.o h'.o⟩
theorem g_tup {ts : List Expr} {t : TGs} {gs : List D → Ev → Option Ev} {sl : List Nat} {n k : Nat} (h : GsTo X K ts t gs sl) (hK : X.K = K := by rfl) (hc : X.calm = true := by rfl) (hn : (assignEach ts X.env).length = n := by rfl) (hst : (assignEach ts X.env).findIdx? (·.1) = none := by rfl) : GTo X K (.Tuple ts k pos) (gSeq K n t) (gTp n gs) sl := by
  subst hK
  exact ⟨pg_seq hc h.p hn hst, gTp_ok h.o⟩
theorem s_asg {tg : Expr} {m : M} {t : TG} {g : GM} {sl : List Nat} (hg : GTo X X.K tg t g sl) (h : PE X e (tM X.K Z m)) (hs : swapsWithSole [tg] e pos.line X.env = pure false := by rfl) (hw : swappedStores [tg] e X.env = pure none := by rfl) (h1 : (assignEach [tg] X.env).map (·.2) = [assign tg X.env] := by rfl) : PS X (.Assign [tg] e pos) (sM X.K Z (sAsg m g)) :=
  PS.imp (ps_asg h hg.p hs hw h1) fun _ _ _ => sAsg_ok hg.o
theorem s_for {tg iter : Expr} {body : List Stmt} {src : MI} {t : TG} {g : GM} {sl : List Nat} {m : MS} (hg : GTo X X.K tg t g sl) (hi : PI X tg iter (tI X.K Z src)) (hb : PSs X body (sM X.K Z m)) (hp : PassesOwn (model X.prog X.w) X.A X.env X.xe := by exact PassesOwn.never) (hc : X.calm = true := by rfl) (hs : ∀ x, foldedSetIterable iter X.env x = pure x := by intro _; rfl) :
    PS X (.For tg iter body [] pos) (sM X.K Z (sFor src g m)) := PS.imp (ps_for hp hc hi hg.p hb hs) fun _ _ _ => sFor_ok hg.o
theorem s_while {c : Expr} {body : List Stmt} {t : MT} {m : MS} (n : Nat) (hc : PT X c (tT X.K Z t)) (hb : PSs X body (sM X.K Z m)) (hp : PassesOwn (model X.prog X.w) X.A X.env X.xe := by exact PassesOwn.never) : PS X (.While c body [] pos) (sM X.K Z (sWhile n t m)) := PS.imp (ps_while hp hc hb) fun _ _ _ => sWhile_ok
theorem m_comp {elt tg iter : Expr} {ifs : List Expr} {scope : Scope} (own : List (Str × Nat)) {src : MI} {t : TG} {g : GM} {sl : List Nat} {tt : MT} {me : M} (nd : X.N.Nodup) (hi : PI X tg iter (tI X.K Z src)) (ok : BlkOk X.N X.env.scope scope own)
    (hg : ∀ (s : Shared) (H : Hp) (C : Addr) (cl : List (Str × Addr)) (fp : List Addr), GTo (X.blk s H scope (compEnvC scope cl C X.env) fp) X.K tg t g sl)
    (ht : ∀ (s : Shared) (H : Hp) (C : Addr) (cl : List (Str × Addr)) (fp : List Addr), PTs (X.blk s H scope (compEnvC scope cl C X.env) fp) ifs (tT X.K Z tt))
    (he : ∀ (s : Shared) (H : Hp) (C : Addr) (cl : List (Str × Addr)) (fp : List Addr), PE (X.blk s H scope (compEnvC scope cl C X.env) fp) elt (tM X.K Z me)) (hsl : ∀ j ∈ sl, j ∈ own.map (·.2) := by decide) (hc : X.calm = true := by rfl) (hs : ∀ x, foldedSetIterable iter X.env x = pure x := by intro _; rfl) :
    PE X (.ListComp elt [⟨tg, iter, ifs, 0⟩] scope pos) (tM X.K Z (eComp (own.map (·.2)) src g tt me)) :=
  PE.imp (pe_lc (own := own) hc nd hi ok (fun s H C cl fp => (hg s H C cl fp).p) ht he hs) fun _ _ _ => eComp_ok (hg X.s_0 X.H_0 0 [] []).o hsl
theorem m_frz {m : M} (is : List Nat) (h : PE X e (tM X.K Z m)) : PE X e (tM X.K Z (eFrz is m)) := PE.imp h fun _ _ _ => eFrz_ok
theorem s_setLc {elt tg iter : Expr} {ifs : List Expr} {scope : Scope} (own : List (Str × Nat)) {src : MI} {t : TG} {g : GM} {sl : List Nat} {tt : MT} {me : M} {i : Nat} {py spos : Pos} (is : List Nat) (nd : X.N.Nodup) (hi : PI X tg iter (tI X.K Z src)) (ok : BlkOk X.N X.env.scope scope own)
    (hg : ∀ (s : Shared) (H : Hp) (C : Addr) (cl : List (Str × Addr)) (fp : List Addr), GTo (X.blk s H scope (compEnvC scope cl C X.env) fp) X.K tg t g sl)
    (ht : ∀ (s : Shared) (H : Hp) (C : Addr) (cl : List (Str × Addr)) (fp : List Addr), PTs (X.blk s H scope (compEnvC scope cl C X.env) fp) ifs (tT X.K Z tt))
    (he : ∀ (s : Shared) (H : Hp) (C : Addr) (cl : List (Str × Addr)) (fp : List Addr), PE (X.blk s H scope (compEnvC scope cl C X.env) fp) elt (tM X.K Z me)) (hsl : ∀ j ∈ sl, j ∈ own.map (·.2) := by decide) (hc : X.calm = true := by rfl) (hy : X.N[i]? = some x := by rfl) (hyl : X.env.scope.names.lookup x = some .local := by rfl)
    (hsw : swapsWith (.ListComp elt [⟨tg, iter, ifs, 0⟩] scope pos) (some (.Name x py)) spos.line X.env = pure true := by rfl) (hs : ∀ x, foldedSetIterable iter X.env x = pure x := by intro _; rfl) :
    PS X (.Assign [.Name x py] (.ListComp elt [⟨tg, iter, ifs, 0⟩] scope pos) spos) (sM X.K Z (sSet i (eFrz is (eComp (own.map (·.2)) src g tt me)))) :=
  PS.imp (ps_setLc (own := own) hc nd hy hyl hsw hi ok (fun s H C cl fp => (hg s H C cl fp).p) ht he hs) fun _ _ _ h => by
    have h1 := sSet_ok h
    exact eComp_ok (hg X.s_0 X.H_0 0 [] []).o hsl (eFrz_ok h1)
theorem s_par2 {x y : Str} {a b : Expr} {i j : Nat} {px py pt : Pos} {kt k2 : Nat} {pt2 : Pos} {ms : MH} (nd : X.N.Nodup) (ha : PA X [a, b] (tH X.K Z ms)) (hn : HLen 2 ms) (hi : X.N[i]? = some x := by rfl) (hj : X.N[j]? = some y := by rfl) (hij : i ≠ j := by decide) (hc : X.calm = true := by rfl)
    (hx : X.env.scope.names.lookup x = some .local := by rfl) (hy : X.env.scope.names.lookup y = some .local := by rfl) (hw : swappedStores [.Tuple [.Name x px, .Name y py] kt pt] (.Tuple [a, b] k2 pt2) X.env = pure (some [x, y]) := by rfl)
    (hs : swapsWithSole [.Tuple [.Name x px, .Name y py] kt pt] (.Tuple [a, b] k2 pt2) pos.line X.env = pure false := by rfl) : PS X (.Assign [.Tuple [.Name x px, .Name y py] kt pt] (.Tuple [a, b] k2 pt2) pos) (sM X.K Z (sPar [i, j] ms)) :=
  PS.imp (ps_par hc nd hi hj hij hx hy ha hw hs) fun _ _ _ => sPar2_ok hn
theorem s_par3 {x y z : Str} {a b c : Expr} {i j l : Nat} {px py pz pt : Pos} {kt k2 : Nat} {pt2 : Pos} {ms : MH} (nd : X.N.Nodup) (ha : PA X [a, b, c] (tH X.K Z ms)) (hn : HLen 3 ms) (hi : X.N[i]? = some x := by rfl) (hj : X.N[j]? = some y := by rfl) (hl : X.N[l]? = some z := by rfl) (hij : i ≠ j := by decide) (hil : i ≠ l := by decide) (hjl : j ≠ l := by decide) (hc : X.calm = true := by rfl)
    (hx : X.env.scope.names.lookup x = some .local := by rfl) (hy : X.env.scope.names.lookup y = some .local := by rfl) (hz : X.env.scope.names.lookup z = some .local := by rfl) (hw : swappedStores [.Tuple [.Name x px, .Name y py, .Name z pz] kt pt] (.Tuple [a, b, c] k2 pt2) X.env = pure (some [x, y, z]) := by rfl)
    (hs : swapsWithSole [.Tuple [.Name x px, .Name y py, .Name z pz] kt pt] (.Tuple [a, b, c] k2 pt2) pos.line X.env = pure false := by rfl) : PS X (.Assign [.Tuple [.Name x px, .Name y py, .Name z pz] kt pt] (.Tuple [a, b, c] k2 pt2) pos) (sM X.K Z (sPar [i, j, l] ms)) :=
  PS.imp (ps_par3 hc nd hi hj hl hij hil hjl hx hy hz ha hw hs) fun _ _ _ => sPar3_ok hn
end
end Mi
set_option Elab.async false
set_option linter.all false
set_option maxRecDepth 100000
set_option maxHeartbeats 2000000
namespace Mi
open PySem PySem.Spec PyProof.Rows L2

/-! ### the law itself is asked -/
/-- how the script's list is seen: its own object known, or one of the text's -/
structure Seen (K : PySem.W.Frag) (h : Heap) (a : Addr) (ns : List Int) (H : Hp) : Prop where
  scr : ScrAt K H a ns
  one : ∀ b u, H b = some u → b = a ∧ (∃ o, u = .frz o (.lst (ns.map V.int)) ∧ h.get? a = some o)
  far : H a ≠ none → K.lookup a = none
  hok : ∀ P w, HOk P w H h
theorem seen {K : PySem.W.Frag} {h : Heap} {a : Addr} {vs : List Value} {ns : List Int} (KX : K.In h) (ha : h.get? a = some { cls := .type "list", data := .seq vs.toArray }) (hi : IntsAre vs ns) (hl : ns.length ≤ sizeLine) : ∃ H, Seen K h a ns H := by
  have rv := vals_ints hi
  cases hk : K.lookup a with
  | some o =>
    have e := KX a o hk
    rw [ha] at e
    cases e
    refine ⟨fun _ => none, .inr ⟨_, vs.toArray, _, hk, rfl, rfl, rfl, by rw [List.size_toArray, hi.length]; exact hl, by simpa using rv⟩, fun b u z => ?_, fun z => absurd rfl z, fun P w b u z => ?_⟩
    · have z' : (none : Option HO) = some u := z
      cases z'
    · have z' : (none : Option HO) = some u := z
      cases z'
  | none =>
    let o : Obj := { cls := .type "list", data := .seq vs.toArray }
    let H : Hp := fun b => if b = a then some (.frz o (.lst (ns.map V.int))) else none
    have g : ∀ b u, H b = some u → b = a ∧ u = .frz o (.lst (ns.map V.int)) := fun b u z => by
      by_cases hb : b = a
      · have z' : H b = some (.frz o (.lst (ns.map V.int))) := if_pos hb
        rw [z'] at z; cases z
        exact ⟨hb, rfl⟩
      · have z' : H b = none := if_neg hb
        rw [z'] at z; cases z
    refine ⟨H, .inl ⟨o, if_pos rfl⟩, fun b u z => ⟨(g b u z).1, o, (g b u z).2, ha⟩, fun _ => hk, fun P w b u z => ?_⟩
    obtain ⟨rfl, rfl⟩ := g b u z
    exact ⟨ha, by rw [List.length_map]; exact hl, vs, _, rv, ha⟩
theorem ask_law {Pg : Program} {w : World} {K : PySem.W.Frag} {mg mb : Str → Option Value} {k : Nat} {fa a : Addr} {fd : FuncData} {x : Str} {g : List D → T D} {s₁ : Shared} {vs : List Value} {ns : List Int}
    (KX : K.In s₁.heap) (hns : s₁.heap.Ns mainGlobals mg) (hb : s₁.heap.Ns builtinsNs mb) (hbb : ∀ x : Str, x ≠ "__name__" → mb x = bootBuiltins x) (hlim : s₁.heap.NoLimit) (hg : s₁.gens = #[])
    (ha : s₁.heap.get? a = some { cls := .type "list", data := .seq vs.toArray }) (hi : IntsAre vs ns) (hl : ns.length ≤ sizeLine) (hr : Room k callerA)
    (F : ∀ base : Heap, K.In base → base.Ns mainGlobals mg → FnG Pg w K mg base k fa fd [x] (spM K g 1)) (hbind : ∀ (s : Shared) (u : Value), BindsTo s fd ⟨[u], []⟩ [(x, u)])
    (law : ∃ N, N ≤ LIM ∧ (g [.scr ns]).ok N fun _ d => d = .bl true) :
    codeAny (model Pg w) callerA (.call (.ref fa) ⟨[.ref a], []⟩) (fun r s' => r = .ok (.ret (.bool true)) ∧ OldK s₁.heap s'.heap ∧ s'.os = s₁.os ∧ AllBare s'.gens) s₁ := by
  obtain ⟨H, V⟩ := seen KX ha hi hl
  have away : ∀ {b : Addr} {o : Obj}, s₁.heap.get? b = some o → (b = a → ∀ vs n, o.data ≠ .seq vs n) → H b = none := fun {b o} e d => by
    cases q : H b with
    | none => rfl
    | some u =>
      obtain ⟨rfl, _⟩ := V.one b u q
      rw [ha] at e
      cases e
      exact absurd rfl (d rfl vs.toArray _)
  have nsK : ∀ {b : Addr} {m : Str → Option Value}, s₁.heap.Ns b m → (hidT s₁.heap H).Ns b m := fun {b m} ⟨o, es, ep, e, d, r⟩ => ⟨o, es, ep, hidT_get e (away e fun _ vs n z => by rw [d] at z; cases z), d, r⟩
  have inK : K.In (hidT s₁.heap H) := fun b o e => hidT_get (KX b o e) (by
    cases q : H b with
    | none => rfl
    | some u =>
      obtain ⟨rfl, _⟩ := V.one b u q
      rw [V.far (by rw [q]; simp)] at e; cases e)
  have md : Mod K mg (hidT s₁.heap H) := ⟨inK, nsK hns, ⟨mb, nsK hb, hbb⟩, let ⟨mc, h1, h2⟩ := hlim; ⟨mc, nsK h1, h2⟩⟩
  have e0 : Env0 Pg w K mg (hidT s₁.heap H) callerA [] s₁ H := ⟨rfl, md, fun b o e => of_hidT e, Nat.le_of_eq (hidT_size _ _), trivial, fun b hb => absurd (show b ∈ ([] : List Addr) from hb) (by simp), V.hok Pg w, .of_eq hg⟩
  obtain ⟨N, hN, law⟩ := law
  have sp : spM K g 1 [.ref a] H (fun v _ => v = .bl true) E0 := by
    refine ⟨N, fun _ => False, fun _ => False, [.scr ns], rfl, .cons (by simp only [RV]; exact ⟨a, rfl, V.scr⟩) .nil, ⟨fun _ f => f.elim, fun _ f => f.elim, fun _ f => f.elim, hN⟩, T.ok_mono (fun N' d e => ?_) law⟩
    subst e
    intro v H' F' P' _ _ rv
    simpa only [RV] using rv
  refine codeAny_mono ((F _ inK (nsK hns)).run callerA [] s₁ H [.ref a] [.ref a] _ ⟨hr, rfl⟩ e0 (hbind s₁ (.ref a)) (.cons rfl .nil) sp) fun r s' h => ?_
  match r, h with
  | .ok (.ret u), h =>
    obtain ⟨v, H', os, bare, un, hok', r', q⟩ := h
    have q' : v = .bl true := q
    subst q'
    obtain rfl : u = Value.bool true := r'
    refine ⟨rfl, OldK.of_keep fun b o e => ?_, os, bare⟩
    cases q : H b with
    | none => exact un.keep b o e q (fun z => absurd (show b ∈ ([] : List Addr) from z) (by simp)) (by simp)
    | some u =>
      obtain ⟨rfl, o', rfl, e1⟩ := V.one b u q
      obtain ⟨e2, _⟩ := hok' b _ (un.frzs b o' _ q)
      rw [e] at e1; cases e1
      exact e2
  | .ok .next, h => exact False.elim h
  | .ok .brk, h => exact False.elim h
  | .ok .cont, h => exact False.elim h
  | .error e, h => exact False.elim h
/-- the goal that the head leaves -/
theorem walkM {l : PySem.W.OpenLaw} {n k : Nat} {q : Program} {loose : List Str} {XP : (Str → Option Value) → Heap → Prop} {YP : World → Heap → Prop} {d : DefRec} {K : Params → PySem.W.Frag} {g : List D → T D} {x : Str}
    (hn : l.most = some n) (hn2 : n ≤ sizeLine) (hdf : d.params.defaults = []) (hr : Room k callerA) (hY : ∀ (w : World) (h : Heap), YP w h → (K w.params).In h)
    (F : ∀ (w : World) (mg : Str → Option Value) (fa : Addr) (h : Heap), (K w.params).In h → h.Ns mainGlobals mg → mg d.name = some (.ref fa) →
      ∃ fd : FuncData, (∀ (s : Shared) (u : Value), BindsTo s fd ⟨[u], []⟩ [(x, u)]) ∧ ∀ base : Heap, (K w.params).In base → base.Ns mainGlobals mg → FnG l.prog w (K w.params) mg base k fa fd [x] (spM (K w.params) g 1))
    (law : ∀ ns : List Int, ns.length ≤ n → ∃ N, N ≤ LIM ∧ (g [.scr ns]).ok N fun _ d => d = .bl true) :
    PySem.W.WalkO q loose XP YP l.row.toRowW d [] (fun f vs => PySem.call f vs) := by
  refine Att.attach_call hn hdf fun w s₀ s₁ mg mb fa o pm cd doc a vs ns G Y ho hd hcd hmg hobj hints hlen hg => ?_
  obtain ⟨fd, hb, hF⟩ := F w mg fa _ (hY w _ Y) G.T.g hmg
  exact ask_law (hY w _ Y) G.T.g G.T.b G.T.builtins G.T.nolimit hg hobj hints (Nat.le_trans hlen hn2) hr hF hb (law ns hlen)
/-! ### what stands behind the top -/
structure DefIn (K : PySem.W.Frag) (mg : Str → Option Value) (x : Str) (st : Stmt) (ps : List Str) : Prop where
  ex : ∃ f fd, Fun K x x st f fd ∧ mg x = some (.ref f) ∧ Binds K fd ps []
/-- the built-in names are nobody else's -/
structure Bl (mg : Str → Option Value) : Prop where
  len : mg "len" = none
  int : mg "int" = none
  abs : mg "abs" = none
  min : mg "min" = none
  max : mg "max" = none
  sum : mg "sum" = none
  any : mg "any" = none
  all : mg "all" = none
  list : mg "list" = none
  tuple : mg "tuple" = none
  sorted : mg "sorted" = none
  isinstance : mg "isinstance" = none
  repr : mg "repr" = none
  range : mg "range" = none
  enumerate : mg "enumerate" = none
  zip : mg "zip" = none
  set : mg "set" = none
  str : mg "str" = none
  bool : mg "bool" = none
  dict : mg "dict" = none
theorem has_pot {Pg : Program} {w : World} {K : PySem.W.Frag} {mg : Str → Option Value} {base : Heap} {k : Nat} {x : Str} {g : List D → T D} (hg : MakesPot g) (h : Has Pg w K mg base k x 2 g) : Has Pg w K mg base k x 2 potG := by
  obtain ⟨f, fd, ps, a, b, c, d, F⟩ := h
  refine ⟨f, fd, ps, a, b, c, d, fun vs H Q E q => ?_, fun A outer s H us vs Q hr e0 bd r q => F.run A outer s H us vs Q hr e0 bd r (to_pot hg q)⟩
  obtain ⟨_, _, _, _, hl, _⟩ := q
  rw [d]; exact hl
theorem t_rep {X : Cx} {Z : Fr} {k : Nat} {e e2 : Expr} {p : Pos} {f : Bool → Bool} {op : CmpOp} {r : R2} {m1 m2 : M} {p2 pos pos2 pos3 : Pos} (hop : OpR X (compareOp op) r) (hr : ∀ (x y : Str) (H : Hp) (Q : VK), Q (.bl (f (decide (x = y)))) H → r (.str x) (.str y) H Q) (hm : X.mg "repr" = none) (gr : GRoom k X.A) (h1 : PE X e (tM X.K Z m1)) (h2 : PE X e2 (tM X.K Z m2))
    (hmk : behindInMarks op (.Call (.Name "repr" p2) [e2] [] pos2) = false) (hg : Gl X "repr" := by rfl) (he : starEach [e] X.env = (false, eval e X.env) :: starEach [] X.env := by rfl) (he2 : starEach [e2] X.env = (false, eval e2 X.env) :: starEach [] X.env := by rfl) :
    PT X (.Compare (.Call (.Name "repr" p) [e] [] pos) [op] [.Call (.Name "repr" p2) [e2] [] pos2] pos3) (tT X.K Z (mTest (eRep f m1 m2))) := by
  have hc : CallR X (.builtin "repr") (rRep X.K) := call_reprM gr.g (by have := gr.r.un; have : DEEP = 40 := rfl; omega)
  exact PT.imp (pt_cmpR hop (pe_callB hc hg hm (by decide +kernel) (pa_cons h1 pa_nil he) (by decide) (by decide) he (by rfl)) (pe_callB hc hg hm (by decide +kernel) (pa_cons h2 pa_nil he2) (by decide) (by decide) he2 (by rfl)) hmk) fun _ _ _ h => eRep_ok hr (mTest_ok h)
theorem room3 {X : Cx} {k : Nat} (hr : GRoom k X.A) : X.A.units + DEEP + 3 < cLine := by
  have := hr.r.un
  have : DEEP = 40 := rfl
  omega
section
variable {X : Cx} {k : Nat}
theorem r_eq (hr : GRoom k X.A) : OpR X (compareOp .Eq) (rD X.K gEq) := op_eqM (by have := room3 hr; omega)
theorem r_ne (hr : GRoom k X.A) : OpR X (compareOp .NotEq) (rD X.K gNe) := op_neM (by have := room3 hr; omega)
theorem r_lt (hr : GRoom k X.A) : OpR X (compareOp .Lt) (rD X.K gLt) := op_ltM (by have := room3 hr; omega)
theorem r_in (hr : GRoom k X.A) : OpR X (compareOp .In) (rD X.K gIn) := op_inM (by have := room3 hr; omega)
theorem r_ni (hr : GRoom k X.A) : OpR X (compareOp .NotIn) (rD X.K gNi) := op_niM (by have := room3 hr; omega)
theorem r_sorted (hr : GRoom k X.A) : CallR X (.builtin "sorted") (rDN X.K (g1 sortedD)) := call_sortedM (room3 hr)
theorem r_min (hr : GRoom k X.A) (hc : X.calm = true) : CallR X (.builtin "min") (rDN X.K (g1 minD)) := call_minM hc (by have := room3 hr; omega)
theorem r_idx (hr : GRoom k X.A) : MtR X "list.index" (rMtM X.K gIdx) := mt_idx (by have := room3 hr; omega)
end
end Mi
set_option Elab.async false
set_option linter.all false
set_option maxRecDepth 100000
set_option maxHeartbeats 2000000
namespace Mi
open PySem PySem.Spec PyProof.Rows L2

/-! ### how many unlike ints: len(set(xs)) -/
def ddI (l : List Int) : List Int := l.foldr (fun x r => if x ∈ r then r else x :: r) []
theorem ddI_nodup : ∀ l : List Int, (ddI l).Nodup
  | [] => .nil
  | x :: l => by
    show (if x ∈ ddI l then ddI l else x :: ddI l).Nodup
    split
    · exact ddI_nodup l
    · rename_i h; exact List.nodup_cons.mpr ⟨h, ddI_nodup l⟩
theorem ddI_mem {y : Int} : ∀ {l : List Int}, y ∈ ddI l ↔ y ∈ l
  | [] => Iff.rfl
  | x :: l => by
    show y ∈ (if x ∈ ddI l then ddI l else x :: ddI l) ↔ _
    split
    · rename_i h
      rw [ddI_mem, List.mem_cons]
      constructor
      · exact .inr
      · rintro (rfl | h')
        · exact ddI_mem.mp h
        · exact h'
    · rw [List.mem_cons, List.mem_cons, ddI_mem]
theorem dd_len {l m : List Int} (hn : m.Nodup) (h : ∀ y, y ∈ m ↔ y ∈ l) : m.length = (ddI l).length :=
  ((List.perm_ext_iff_of_nodup hn (ddI_nodup l)).2 fun y => (h y).trans ddI_mem.symm).length_eq
theorem ddI_le : ∀ l : List Int, (ddI l).length ≤ l.length
  | [] => Nat.le_refl _
  | x :: l => by
    show (if x ∈ ddI l then ddI l else x :: ddI l).length ≤ _
    have := ddI_le l
    split <;> simp <;> omega
def lenSetD (d : D) : Option Hd := match seqD d with
  | some l => match intsO l with
    | some ns => if ns.length ≤ 4000 then some (.val (.int (ddI ns).length)) else none
    | none => none
  | none => none
theorem lenSetD_ns : NS1 lenSetD := by
  intro d h q
  unfold lenSetD at q
  split at q
  · split at q
    · split at q
      · cases q; rfl
      · cases q
    · cases q
  · cases q
theorem met_nodup (ns : List Int) : ∀ i, (PyProof.Rows.firstMet (fun i => ns.getD i 0) i).Nodup
  | 0 => by rw [PyProof.Rows.firstMet_zero]; exact .nil
  | i + 1 => by
    rw [PyProof.Rows.firstMet_succ]
    unfold step_dedup
    split
    · exact met_nodup ns i
    · rename_i h
      refine List.nodup_append.mpr ⟨met_nodup ns i, by simp, fun x m y m' e => ?_⟩
      simp at m'
      subst e
      refine h (List.any_eq_true.mpr ⟨x, m, ?_⟩)
      rw [m']; exact beq_self_eq_true _
theorem met_len (ns : List Int) : (PyProof.Rows.firstMet (fun i => ns.getD i 0) ns.length).length = (ddI ns).length := by
  refine dd_len (met_nodup ns _) fun y => ?_
  have h := PyProof.Rows.firstMet_any (fun i => ns.getD i 0) ns.length y
  have e : (List.range ns.length).map (fun i => ns.getD i 0) = ns := by
    apply List.ext_getElem
    · simp
    · intro i h1 h2
      simp [h2]
  rw [e] at h
  have t : ∀ l : List Int, l.any (· == y) = true ↔ y ∈ l := fun l => by
    rw [List.any_eq_true]
    constructor
    · rintro ⟨x, m, q⟩; rw [← eq_of_beq q]; exact m
    · intro m; exact ⟨y, m, beq_self_eq_true _⟩
  rw [← t, ← t, h]
def rLenSet (K : PySem.W.Frag) : V → Hp → VK → Prop := rD1 K lenSetD
theorem pe_lenSetM {X : Cx} {Z : Fr} {a : Expr} {m : M} {p p2 q pos : Pos} (hm : X.mg "len" = none) (hm2 : X.mg "set" = none) (ha : PE X a (tM X.K Z m)) (hg : Gl X "len" := by rfl) (hg2 : Gl X "set" := by rfl) (hc : X.calm = true := by rfl)
    (na : starEach [a] X.env = (false, eval a X.env) :: starEach [] X.env := by rfl) : PE X (.Call (.Name "len" p) [.Call (.Name "set" p2) [a] [] q] [] pos) (tM X.K Z (eUn lenSetD m)) := by
  refine PE.imp (t := tUn (rD1 X.K lenSetD) (tM X.K Z m)) ?_ fun _ _ _ => eUn_ok (op1_rD lenSetD_ns)
  refine ⟨fun pins s σ H Q I h => ?_⟩
  refine Call_ (ld_blt I hg hm boot_len ?_)
  refine PyProof.Rows.callWith_builtin1 (PyProof.Rows.args_cons ?_ rfl) rfl rfl
  refine Call_ (ld_blt I hg2 hm2 boot_set ?_)
  refine PyProof.Rows.callWith_type1 (PyProof.Rows.args_cons (thn (ha.run pins s σ H _ I h) fun v s1 ⟨x, H1, I1, r1, q1⟩ => PyProof.Rows.args_nil ?_) na) na rfl
  obtain ⟨F, P, d, hd', rc, e, res⟩ := q1
  unfold lenSetD at e
  split at e
  case h_2 => cases e
  rename_i l hl
  split at e
  case h_2 => cases e
  rename_i ns hns
  split at e
  case isFalse => cases e
  rename_i hle
  cases e
  obtain ⟨b, vs, rfl, rv, hk⟩ := rc.seq hl
  cases r1
  have hv : vs = ns.map V.int := by
    have e1 := intsO_len hns
    subst e1
    clear hns hl hk res h hle
    induction ns generalizing vs with
    | nil => exact rv.unnil
    | cons n ns ih =>
      obtain ⟨v, vr, rfl, q1, q2⟩ := rv.uncons
      rw [ih _ q2]
      simp only [RV] at q1
      rw [q1]; rfl
  subst hv
  have fin : ∀ (h' : Heap) (tk : Nat) (o : Obj) (es : Array (Int × Value)) (ep : Nat) (t : SetTable), h'.get? s1.heap.objs.size = some o → o.ExactSet → o.data = .set es ep t → t.fits es.size = true → es.size = (ddI ns).length → (∀ b o, b < s1.heap.objs.size → s1.heap.get? b = some o → h'.get? b = some o) →
      wpAny (model X.prog X.w) X.A (spliced (backTo pos (starEach [] X.env))) (fun vs s₂ => wpAny (model X.prog X.w) X.A (call (.builtin "len") (Value.ref s1.heap.objs.size :: vs)) (EP X pins σ Q) X.xe s₂) X.xe { s1 with heap := h', toks := tk } := fun h' tk o es ep t ho hex hd hf hn hk => by
    refine PyProof.Rows.args_nil ?_
    have I2 : Inv X pins σ H1 { s1 with heap := h', toks := tk } := I1.kept fun b o e => hk b o (Heap.lt_size e) e
    have hb : (es.size : Int) < 2 ^ 63 := by
      have := ddI_le ns
      rw [hn]; omega
    exact call_len_set ho hex hd hf hb ⟨.int (ddI ns).length, H1, I2.tok _, ⟨_, by rw [hn]⟩, res.1 _ rv_int⟩
  rcases hk with ⟨ht, _⟩ | ⟨ht, _⟩
  · obtain ⟨its, r, pl, hz⟩ := I1.tuple (.of ht)
    have hlen : its.length = ns.length := by rw [← r.length, List.length_map]
    refine call_set_tupI ns (I1.ok.hd hc) pl (by simpa using RZ.intsAre_vals r) (by unfold scanBound; omega) fun h' tk c hS hcl hk => ?_
    obtain ⟨o, es, ep, t, ho, hex, hd, g, nd, hmem, hb, hf, hn, _⟩ := hS
    have hc' : es.size = (ddI ns).length := by
      have := dd_len (l := ns) nd fun y => by rw [← hmem y]; simp
      rw [← this, List.length_map, Array.length_toList]
    exact fin h' tk o es ep t ho hex hd hf hc' fun b o _ e => hk b o e
  · obtain ⟨its, r, pl, hz⟩ := I1.list (.of ht)
    have hlen : its.toArray.size = ns.length := by rw [List.size_toArray, ← r.length, List.length_map]
    refine call_set_list (I1.ok.hd hc) pl.isList (by simpa using RZ.intsAre_vals r) (by rw [hlen]; unfold scanBound; omega) fun h' tk hS hk => ?_
    rw [hlen, met_len] at hS
    obtain ⟨o, es, ep, t, ho, hex, hd, _, _, _, hf, hn⟩ := hS
    exact fin h' tk o es ep t ho hex hd hf hn hk
end Mi
set_option Elab.async false
set_option linter.all false
set_option maxRecDepth 100000
set_option maxHeartbeats 2000000
namespace Mi
open PySem PySem.Spec PyProof.Rows L2 HT

/-! ### xs[::-1], of tuples too -/
section
variable {prog : Program} {w : World} {A : Around} {E : Value → Shared → Prop} {s : Shared}
theorem adjust_rev (n : Nat) : Builtin.Slice.sliceAdjust none none (-1) (n : Int) = ((n : Int) - 1, -1) := by
  have h1 : ((-1 : Int) < 0) := by omega
  unfold Builtin.Slice.sliceAdjust
  simp only [h1, if_true]
theorem places_rev (n : Nat) : Builtin.Slice.slicePlaces ((n : Int) - 1) (-1) (-1) = n := by
  unfold Builtin.Slice.slicePlaces
  have h1 : ¬ ((-1 : Int) > 0) := by omega
  simp only [h1, if_false, Int.neg_neg, Int.ediv_one]
  split <;> omega
theorem sliceApplied_rev {sl : Addr} {vl vu vs : Value} {n : Nat} {Q : Int × Int × Nat → Shared → Prop} (hs : s.heap.IsSliceOf sl vl vu vs) (pl : IsPart vl none) (pu : IsPart vu none) (ps : IsPart vs (some (-1)))
    (h : Q ((n : Int) - 1, -1, n) s) : wpAny (model prog w) A (Builtin.Slice.sliceApplied (.ref sl) (pure (n : Int))) Q E s := by
  obtain ⟨os, hos, hcs, hds⟩ := id hs
  unfold Builtin.Slice.sliceApplied Builtin.Slice.sliceFields
  refine wpAny_bind (wpAny_bind (wpAny_field hos hds (x := vl) rfl (wpAny_bind (wpAny_field hos hds (x := vu) rfl (wpAny_bind (wpAny_field hos hds (x := vs) rfl (wpAny_pure ?_)))))))
  refine wpAny_bind (slicePart_ ps ?_)
  show wpAny _ _ (if ((-1 : Int) == 0) = true then _ else _) _ _ s
  rw [if_neg (by decide)]
  refine wpAny_bind (slicePart_ pl (wpAny_bind (slicePart_ pu (wpAny_bind (wpAny_pure ?_)))))
  show wpAny _ _ (match Builtin.Slice.sliceAdjust none none (-1) (n : Int) with | (lo, hi) => pure (lo, (-1 : Int), Builtin.Slice.slicePlaces lo hi (-1))) _ _ s
  rw [adjust_rev n]
  show wpAny _ _ (pure ((n : Int) - 1, (-1 : Int), Builtin.Slice.slicePlaces ((n : Int) - 1) (-1) (-1))) _ _ s
  rw [places_rev]
  exact wpAny_pure h
theorem fm_map {α β : Type} {f : α → Option β} {g : α → β} : ∀ l : List α, (∀ m ∈ l, f m = some (g m)) → l.filterMap f = l.map g
  | [], _ => rfl
  | x :: l, h => by
    rw [List.filterMap_cons, h x (by simp), List.map_cons, fm_map l fun m hm => h m (by simp [hm])]
theorem pick_rev (xs : Array Value) : ((List.range xs.size).filterMap fun (m : Nat) => xs[(((xs.size : Int) - 1) + (m : Int) * (-1)).toNat]?).toArray = xs.toList.reverse.toArray := by
  have e : ((List.range xs.size).filterMap fun (m : Nat) => xs[(((xs.size : Int) - 1) + (m : Int) * (-1)).toNat]?) = (List.range xs.size).map fun m => xs.toList.reverse.getD m .none := by
    refine fm_map _ fun m hm => ?_
    have hm := List.mem_range.mp hm
    have : (((xs.size : Int) - 1) + (m : Int) * (-1)).toNat = xs.size - 1 - m := by omega
    rw [this]
    simp [List.getD_eq_getElem?_getD, hm]
  rw [e]
  congr 1
  apply List.ext_getElem
  · simp
  · intro i h1 h2
    simp at h2
    simp [List.getD_eq_getElem?_getD, h2]
theorem getItem_tuple_rev {t sl : Addr} {items : Array Value} {vl vu vs : Value} {Q : Value → Shared → Prop} (ht : IsTup s.heap t items) (hs : s.heap.IsSliceOf sl vl vu vs) (pl : IsPart vl none) (pu : IsPart vu none) (ps : IsPart vs (some (-1)))
    (h : Q (.ref s.heap.objs.size) { s with heap := s.heap.push { cls := .type "tuple", data := .seq items.toList.reverse.toArray } })
    (hsz : items.size ≤ sizeLine) : wpAny (model prog w) A (getItem (.ref t) (.ref sl)) Q E s := by
  have htake : sizeOk (.seq items.toList.reverse.toArray) := by
    show items.toList.reverse.toArray.size ≤ sizeLine
    simpa using hsz
  obtain ⟨os, hos, hcs, hds⟩ := id hs
  have hTs : s.TypeIs (.ref sl) "slice" := ⟨os, hos, hcs⟩
  unfold getItem
  try with_reducible refine wpAny_holding ?_
  first | refine wpAny_bind (wpAny_pure ?_) | skip
  refine wpAny_bind (wpAny_sequenceKey ht.typeIs (by decide) ?_)
  refine wpAny_bind (wpAny_callSpecial?_slot (name := Str.ofString "__getitem__") ht.typeIs PyProof.Rows.slot_tuple_getitem
    (wpAny_call_entry PyProof.Rows.slot_tuple_getitem ht.typeIs entry_tuple_getitem ?_ (args_tuple_getitem _ _)))
  show wpAny _ _ (Builtin.Tuple.tupleItemsOf (.ref t) >>= _) _ _ s
  refine wpAny_bind (tupleItemsOf_ ht ?_)
  refine wpAny_bind (wpAny_typeOf hTs ?_)
  rw [if_pos (by decide)]
  refine wpAny_bind (sliceApplied_rev hs pl pu ps ?_)
  have hno : ¬ ((((items.size : Int) - 1) == 0 && (-1 : Int) == 1 && items.size == items.size) = true) := by
    intro q
    rw [Bool.and_eq_true, Bool.and_eq_true] at q
    exact absurd q.1.2 (by decide)
  show wpAny _ _ (if (((items.size : Int) - 1) == 0 && (-1 : Int) == 1 && items.size == items.size) = true then _ else _) _ _ s
  rw [if_neg hno, pick_rev]
  first
    | exact wpAny_bind (m := Builtin.Tuple.tupleExact _) (wpAny_newObj_type (wpAny_pure ⟨_, rfl, wpAny_pure h⟩) htake)
    | exact wpAny_bind (m := Builtin.Tuple.tupleExact _) (wpAny_newObj_type (wpAny_bind (wpAny_pure (wpAny_pure ⟨_, rfl, wpAny_pure h⟩))) htake)
    | exact wpAny_bind (wpAny_bind (m := Builtin.Tuple.tupleExact _) (wpAny_newObj_type (wpAny_pure (wpAny_pure ⟨_, rfl, wpAny_pure h⟩)) htake))
    | exact wpAny_bind (wpAny_bind (m := Builtin.Tuple.tupleExact _) (wpAny_newObj_type (wpAny_pure ⟨_, rfl, wpAny_pure h⟩) htake))
end
def revD : D → Option Hd
  | .tup l => some (.val (.tup l.reverse))
  | .lst l => some (.tmp (.lst l.reverse))
  | _ => none
theorem revD_ns : NS1 revD := by
  intro d h q; unfold revD at q; split at q <;> cases q <;> rfl
theorem pe_revM {X : Cx} {Z : Fr} {e : Expr} {m : M} {k : Nat} {p1 p2 p3 pos : Pos} (he : PE X e (tM X.K Z m)) : PE X (.Subscript e (.Slice none none (some (.UnaryOp .USub (.Constant (.int 1) k p1) p2)) p3) pos) (tM X.K Z (eUn revD m)) := by
  refine PE.imp (t := tUn (rD1 X.K revD) (tM X.K Z m)) ?_ fun _ _ _ => eUn_ok (op1_rD revD_ns)
  refine ⟨fun pins s σ H Q I h => ?_⟩
  refine Subscript_ (thn (he.run pins s σ H _ I h) fun v s1 ⟨x, H1, I1, r1, q1⟩ => ?_)
  obtain ⟨F, P, d, hd', rc, e0, res⟩ := q1
  have hst : PO X (some (.UnaryOp .USub (.Constant (.int 1) k p1) p2)) (tPart (tUn (rU fun i => .int (-i)) (tC (.int 1)))) := po_some (pe_un un_neg pe_int)
  refine wpAny_Slice (thn (po_none.run pins s1 σ H1 (fun o H2 => o = none ∧ H2 = H1) I1 ⟨rfl, rfl⟩) fun vl s2 ⟨l, H2, I2, pl, el, e2⟩ => ?_)
  subst el e2
  refine thn (po_none.run pins s2 σ H2 (fun o H3 => o = none ∧ H3 = H2) I2 ⟨rfl, rfl⟩) fun vu s3 ⟨u, H3, I3, pu, eu, e3⟩ => ?_
  subst eu e3
  refine thn (hst.run pins s3 σ H3 (fun o H4 => o = some (-1) ∧ H4 = H3) I3 ⟨1, rfl, -1, rfl, rfl, rfl⟩) fun vs s4 ⟨o, H4, I4, ps, eo, e4⟩ => ?_
  subst eo e4
  have I5 : Inv X pins σ H4 { s4 with heap := s4.heap.push { cls := .type "slice", data := .fields #[vl, vu, vs] } } := I4.kept (t' := s4.toks) fun b ob q => Heap.get?_push_of_some _ q
  unfold revD at e0
  split at e0
  · rename_i l
    cases e0
    obtain ⟨a, xs, rfl, ha, ra⟩ := rc.tup
    cases r1
    obtain ⟨its, r, ht, hz⟩ := I5.tuple (.of ha)
    have hlen := r.length
    show wpAny (model X.prog X.w) X.A (subscriptTail e (.Slice none none (some (.UnaryOp .USub (.Constant (.int 1) k p1) p2)) p3) (.ref a) (.ref s4.heap.objs.size)) (EP X pins σ Q) X.xe { s4 with heap := s4.heap.push { cls := .type "slice", data := .fields #[vl, vu, vs] } }
    refine tail_any (ops := [.ref a, .ref s4.heap.objs.size]) ht.typeIs (PyProof.Rows.slot_tuple_getitem.lookup) ?_ (by with_unfolding_all rfl)
    refine getItem_tuple_rev ht (Heap.IsSliceOf.new _ vl vu vs) pl pu ps ?_ (by rw [List.size_toArray]; omega)
    refine ⟨.ref _, _, I5.laid (t' := s4.toks) (o := .tup xs.reverse) (fun b ob q => Heap.get?_push_of_some _ q) (Nat.le_refl _) ?_, rfl, res.2 _ _ _ rfl ra.snoc (I5.hok.fresh (Nat.le_refl _))⟩
    exact ⟨by rw [List.length_reverse]; omega, _, r.reverse, IsTup.new _ _⟩
  · rename_i l
    cases e0
    obtain ⟨a, xs, rfl, ha, ra⟩ := rc.lst
    cases r1
    obtain ⟨its, r, ht, hz⟩ := I5.list (.of ha)
    have hlen := r.length
    show wpAny (model X.prog X.w) X.A (subscriptTail e (.Slice none none (some (.UnaryOp .USub (.Constant (.int 1) k p1) p2)) p3) (.ref a) (.ref s4.heap.objs.size)) (EP X pins σ Q) X.xe { s4 with heap := s4.heap.push { cls := .type "slice", data := .fields #[vl, vu, vs] } }
    refine tail_any (ops := [.ref a, .ref s4.heap.objs.size]) ht.isList.typeIs (PySem.slot_list_getitem.lookup) ?_ (by with_unfolding_all rfl)
    refine wpAny_getItem_list_slice ht.isList (Heap.IsSliceOf.new _ vl vu vs) pl pu ps (by decide) ?_ (by rw [List.size_toArray]; omega)
    rw [PySem.W.krv_pick]
    refine ⟨.ref _, _, I5.laid (t' := s4.toks) (o := .lst xs.reverse) (fun b ob q => Heap.get?_push_of_some _ q) (Nat.le_refl _) ?_, rfl, res _ _ _ rfl ra.snoc (I5.hok.fresh (Nat.le_refl _))⟩
    exact ⟨by rw [List.length_reverse]; exact hz, _, 0, r.reverse, Heap.get?_push_size _ rfl⟩
  · cases e0
end Mi
set_option Elab.async false
set_option linter.all false
set_option maxRecDepth 100000
set_option maxHeartbeats 2000000
namespace Mi
open PySem PySem.Spec PyProof.Rows L2

/-! ### l[i], k[j] = x, y -/
section
variable {K : PySem.W.Frag} {Z : Fr} {N : Nat} {F P : Addr → Prop} {env : Ev} {σ : L2.St} {H : Hp}
def stK (i : Nat) (mi : M) (d : D) (env1 : Ev) (k : Ev → T (Fl × Ev)) : T (Fl × Ev) := match env1[i]? with
  | some (some (true, _)) => (mi env1).bind fun r2 => match r2.1 with
    | .val (.int x) => match r2.2[i]? with
      | some (some (true, .lst l)) => match L2.ixN l.length x with
        | some j => k (r2.2.set i (some (true, .lst (l.set j d))))
        | none => .fail
      | _ => .fail
    | _ => .fail
  | _ => .fail
def sSto2 (i : Nat) (mi : M) (i' : Nat) (mi' : M) (m : M) : MS := fun env => (m env).bind fun r => match fz r.2 r.1 with
  | some (.tup [d, d'], env1) => stK i mi d env1 fun env2 => stK i' mi' d' env2 fun env3 => .ret (.nx, env3)
  | _ => .fail
theorem stK_ok {i : Nat} {mi : M} {d : D} {v : V} {k : Ev → T (Fl × Ev)} {R : Nat → Fl × Ev → Prop} {Q : L2.St → Hp → Prop} (S : StR K Z N F P env σ H) (rv : RV K F P H d v) (h : (stK i mi d env k).ok N R)
    (q : ∀ N3 F3 P3 env3 H3, Mon K F P H F3 P3 H3 → StR K Z N3 F3 P3 env3 σ H3 → (k env3).ok N3 R → Q σ H3) : gSub (tVar i) (tM K Z mi) rSetL v σ H Q := by
  unfold stK at h
  split at h
  · rename_i d0 e0
    obtain ⟨a, ea, ow, nf, np, h0⟩ := S.ow i _ e0
    refine ⟨.ref a, ea, N, F, P, env, S, T.ok_mono (fun N3 r3 q3 => ?_) (T.ok_bind h)⟩
    intro u H3 F3 P3 E3 S3 R3 Y3
    split at q3
    · rename_i x ex
      rw [ex] at R3
      have R3' : RV K F3 P3 H3 (.int x) u := R3
      simp only [RV] at R3'
      subst R3'
      split at q3
      · rename_i l e2
        split at q3
        · rename_i j e3
          obtain ⟨a', ea', ⟨vs, ha, rs⟩, nf2, np2, h02⟩ := S3.ow i _ e2
          rw [ea] at ea'; cases ea'
          refine ⟨a, vs, x, j, rfl, rfl, ha, by rw [rs.length]; exact e3, ?_⟩
          have rv3 : RV K F3 P3 H3 d v := rv.mono (E3.mon S)
          obtain ⟨S4, m⟩ := S3.mut (l' := l.set j d) (ws := vs.set j v) e2 ea fun H' m => (rs.mono m).set j (rv3.mono m)
          exact q _ F3 P3 _ _ ((E3.mon S).trans m) S4 q3
        · exact q3.elim
      · exact q3.elim
    · exact q3.elim
  · exact h.elim
theorem sSto2_ok {i i' : Nat} {mi mi' m : M} {D : Ends} (h : sM K Z (sSto2 i mi i' mi' m) D σ H) : tAsg (tM K Z m) (gSeq K 2 (gCons (gSub (tVar i) (tM K Z mi) rSetL) (gCons (gSub (tVar i') (tM K Z mi') rSetL) gNil))) D σ H := by
  obtain ⟨N, F, P, env, S, h⟩ := h
  refine ⟨N, F, P, env, S, T.ok_mono (fun N1 r1 q1 => ?_) (T.ok_bind h)⟩
  intro v H1 F1 P1 E1 S1 R1 Y1
  split at q1
  · rename_i d d' env1 e1
    obtain ⟨F2, E2, S2, rv⟩ := R1.freeze E1 S1 Y1 e1
    have rv' := rv
    simp only [RV] at rv'
    obtain ⟨a, vs, rfl, ha, rs⟩ := rv'
    obtain ⟨v1, vr, rfl, r1', rr⟩ := rs.uncons
    obtain ⟨v2, vr2, rfl, r2', rr2⟩ := rr.uncons
    obtain rfl := rr2.unnil
    refine .inl ⟨a, [v1, v2], rfl, .of ha, rfl, v1, [v2], rfl, ?_⟩
    refine stK_ok S2 r1' q1 fun N3 F3 P3 env3 H3 m3 S3 q3 => ⟨v2, [], rfl, ?_⟩
    refine stK_ok S3 (r2'.mono m3) q3 fun N4 F4 P4 env4 H4 m4 S4 q4 => ⟨rfl, ?_⟩
    exact q4 _ _ F4 P4 (((E2.mon S).trans m3).trans m4) S4
  · exact q1.elim
end
section
variable {X : Cx} {Z : Fr}
theorem s_sto2 {m mi mi' : M} {i i' : Nat} {y y' : Str} {a a' e : Expr} {q q2 q' q2' pos p0 : Pos} {k0 : Nat} (ho : PE X (.Name y q) (tVar i)) (ha : PE X a (tM X.K Z mi)) (ho' : PE X (.Name y' q') (tVar i')) (ha' : PE X a' (tM X.K Z mi')) (h : PE X e (tM X.K Z m))
    (hs : swapsWithSole [.Tuple [.Subscript (.Name y q) a q2, .Subscript (.Name y' q') a' q2'] k0 p0] e pos.line X.env = pure false := by rfl) (hw : swappedStores [.Tuple [.Subscript (.Name y q) a q2, .Subscript (.Name y' q') a' q2'] k0 p0] e X.env = pure none := by rfl)
    (h1 : (assignEach [.Tuple [.Subscript (.Name y q) a q2, .Subscript (.Name y' q') a' q2'] k0 p0] X.env).map (·.2) = [assign (.Tuple [.Subscript (.Name y q) a q2, .Subscript (.Name y' q') a' q2'] k0 p0) X.env] := by rfl)
    (hsub : ∀ v, assign (.Subscript (.Name y q) a q2) X.env v = (do
      let ov ← holding [v] (eval (.Name y q) X.env)
      let iv ← holding [v, ov] (eval a X.env)
      standAt q2
      holding [v, ov, iv] (setItem ov iv v)
      release [v, ov, iv] []) := by intro _; rfl)
    (hsub' : ∀ v, assign (.Subscript (.Name y' q') a' q2') X.env v = (do
      let ov ← holding [v] (eval (.Name y' q') X.env)
      let iv ← holding [v, ov] (eval a' X.env)
      standAt q2'
      holding [v, ov, iv] (setItem ov iv v)
      release [v, ov, iv] []) := by intro _; rfl)
    (hc : X.calm = true := by rfl)
    (hs1 : (assignEach (.Subscript (.Name y q) a q2 :: [.Subscript (.Name y' q') a' q2']) X.env).map (·.2) = assign (.Subscript (.Name y q) a q2) X.env :: (assignEach [.Subscript (.Name y' q') a' q2'] X.env).map (·.2) := by rfl)
    (hs2 : (assignEach (.Subscript (.Name y' q') a' q2' :: []) X.env).map (·.2) = assign (.Subscript (.Name y' q') a' q2') X.env :: (assignEach [] X.env).map (·.2) := by rfl)
    (hn : (assignEach [.Subscript (.Name y q) a q2, .Subscript (.Name y' q') a' q2'] X.env).length = 2 := by rfl) (hst : (assignEach [.Subscript (.Name y q) a q2, .Subscript (.Name y' q') a' q2'] X.env).findIdx? (·.1) = none := by rfl) :
    PS X (.Assign [.Tuple [.Subscript (.Name y q) a q2, .Subscript (.Name y' q') a' q2'] k0 p0] e pos) (sM X.K Z (sSto2 i mi i' mi' m)) :=
  PS.imp (ps_asg h (pg_seq hc (pgs_cons (pg_sub ho ha set_list hsub) (pgs_cons (pg_sub ho' ha' set_list hsub') pgs_nil hs2) hs1) hn hst) hs hw h1) fun _ _ _ => sSto2_ok
end
end Mi
set_option Elab.async false
set_option linter.all false
set_option maxRecDepth 100000
set_option maxHeartbeats 2000000
namespace Mi
open PySem PySem.Spec PyProof.Rows L2

/-! ### a, b = x, y by way of the tuple (names that a block holds): what was just made stays one's own -/
section
variable {K : PySem.W.Frag} {Z : Fr} {σ : L2.St} {H : Hp}
def gNames : List Nat → TGs
  | [] => gNil
  | i :: is => gCons (gName i) (gNames is)
theorem gNames_ok : ∀ {is : List Nat} {vs : List V} {σ : L2.St} {H : Hp} {Q : L2.St → Hp → Prop}, vs.length = is.length → Q (setAll σ is vs) H → gNames is vs σ H Q
  | [], vs, σ, H, Q, hl, q => by
    have : vs = [] := List.length_eq_zero_iff.mp hl
    subst this
    exact ⟨rfl, q⟩
  | i :: is, [], σ, H, Q, hl, q => by simp at hl
  | i :: is, v :: vs, σ, H, Q, hl, q => ⟨v, vs, rfl, gNames_ok (by simpa using hl) q⟩
theorem sParT_ok {is : List Nat} {ms : MH} {n : Nat} {D : Ends} (hn : HLen n ms) (hz : n ≤ sizeLine) (hl : is.length = n) (h : sM K Z (sPar is ms) D σ H) : tAsg (tTup (tH K Z ms)) (gSeq K n (gNames is)) D σ H := by
  obtain ⟨N, F, P, env, S, h⟩ := h
  refine ⟨N, F, P, env, S, T.ok_mono (fun N1 r1 ⟨l1, q1⟩ => ?_) (hn _ _ _ (T.ok_bind h))⟩
  intro vs H1 F1 P1 E1 S1 R1 Y1 A1
  have hv : vs.length = n := by rw [R1.length, l1]
  refine ⟨by rw [hv]; exact hz, fun p hp => ?_⟩
  refine .inl ⟨p, vs, rfl, .of upd_same, hv, gNames_ok (by rw [hv, hl]) ?_⟩
  split at q1
  · rename_i hs env1 e1
    obtain ⟨F2, S2, R2, A2, m2, _⟩ := unslot_ok S1 R1 A1 e1
    split at q1
    · rename_i env2 e2
      exact q1 _ _ F2 P1 (((E1.mon S).trans m2).trans ((Ext.alloc hp).mon S2)) ((puts_ok S2 (unslot_noSlot e1) R2 A2 e2).alloc hp)
    · exact q1.elim
  · exact q1.elim
end
section
variable {X : Cx} {Z : Fr}
structure PNames (X : Cx) (ts : List Expr) (is : List Nat) : Prop where
  p : PGs X ts (gNames is)
theorem pn_nil : PNames X [] [] := ⟨pgs_nil⟩
theorem pn_cons {x : Str} {pos : Pos} {ts : List Expr} {is : List Nat} (i : Nat) (nd : X.N.Nodup) (h : PNames X ts is) (hi : X.N[i]? = some x := by rfl) (hx : Loc X.env.scope x := by first | exact Or.inl rfl | exact Or.inr rfl) (hf : X.fn x = true ∨ X.env.scope.names.lookup x = some .local := by first | exact .inl rfl | exact .inr rfl)
    (hs : (assignEach (.Name x pos :: ts) X.env).map (·.2) = assign (.Name x pos) X.env :: (assignEach ts X.env).map (·.2) := by rfl) : PNames X (.Name x pos :: ts) (i :: is) := ⟨pgs_cons (pg_name nd hi hx hf) h.p hs⟩
theorem s_parT {ts es : List Expr} {is : List Nat} {ms : MH} {n k0 k1 : Nat} {p0 p1 pos : Pos} (hg : PNames X ts is) (h : PA X es (tH X.K Z ms)) (hn : HLen n ms) (hl : is.length = n := by rfl) (hz : n ≤ 1000 := by decide)
    (hs : swapsWithSole [.Tuple ts k0 p0] (.Tuple es k1 p1) pos.line X.env = pure false := by rfl) (hw : swappedStores [.Tuple ts k0 p0] (.Tuple es k1 p1) X.env = pure none := by rfl)
    (h1 : (assignEach [.Tuple ts k0 p0] X.env).map (·.2) = [assign (.Tuple ts k0 p0) X.env] := by rfl) (hc : X.calm = true := by rfl)
    (hn2 : (assignEach ts X.env).length = n := by rfl) (hst : (assignEach ts X.env).findIdx? (·.1) = none := by rfl) :
    PS X (.Assign [.Tuple ts k0 p0] (.Tuple es k1 p1) pos) (sM X.K Z (sPar is ms)) :=
  PS.imp (ps_asg (pe_tup h) (pg_seq hc hg.p hn2 hst) hs hw h1) fun _ _ _ => sParT_ok hn (by rw [sizeLine_eq]; omega) hl
end
end Mi
set_option Elab.async false
set_option linter.all false
set_option maxRecDepth 100000
set_option maxHeartbeats 2000000
namespace Mi
open PySem PySem.Spec PyProof.Rows L2

/-! ### trees of draws, whatever is drawn -/
def T.all {α : Type} : T α → (α → Prop) → Prop
  | .ret a, Q => Q a
  | .draw k f, Q => ∀ d, d < k → (f d).all Q
  | .fail, _ => False
/-- no more than so many draws -/
def T.dle {α : Type} : T α → Nat → Prop
  | .ret _, _ => True
  | .fail, _ => True
  | .draw _ _, 0 => False
  | .draw k f, n + 1 => ∀ d, d < k → (f d).dle n
theorem T.ok_of {α : Type} {Q : α → Prop} : ∀ {t : T α} {n : Nat}, t.all Q → t.dle n → t.ok n fun _ a => Q a
  | .ret a, _, h, _ => h
  | .fail, _, h, _ => h
  | .draw k f, 0, h, g => g.elim
  | .draw k f, n + 1, h, g => fun d hd => T.ok_of (h d hd) (g d hd)
theorem T.all_mono {α : Type} {Q Q' : α → Prop} (h : ∀ a, Q a → Q' a) : ∀ {t : T α}, t.all Q → t.all Q'
  | .ret a, q => h a q
  | .draw k f, q => fun d hd => T.all_mono h (q d hd)
  | .fail, q => q
theorem T.all_bind {α β : Type} {g : α → T β} {Q : β → Prop} : ∀ {t : T α}, (t.bind g).all Q ↔ t.all fun a => (g a).all Q
  | .ret a => Iff.rfl
  | .draw k f => ⟨fun h d hd => T.all_bind.mp (h d hd), fun h d hd => T.all_bind.mpr (h d hd)⟩
  | .fail => Iff.rfl
theorem T.dle_mono {α : Type} : ∀ {t : T α} {n m : Nat}, t.dle n → n ≤ m → t.dle m
  | .ret _, _, _, _, _ => trivial
  | .fail, _, _, _, _ => trivial
  | .draw k f, 0, m, h, l => h.elim
  | .draw k f, n + 1, 0, h, l => by omega
  | .draw k f, n + 1, m + 1, h, l => fun d hd => T.dle_mono (h d hd) (by omega)
theorem T.dle_bind {α β : Type} {g : α → T β} {b : Nat} (hg : ∀ a, (g a).dle b) : ∀ {t : T α} {n : Nat}, t.dle n → (t.bind g).dle (n + b)
  | .ret a, n, _ => T.dle_mono (hg a) (by omega)
  | .fail, _, _ => trivial
  | .draw k f, 0, h => h.elim
  | .draw k f, n + 1, h => by
    show (T.draw k fun d => (f d).bind g).dle (n + 1 + b)
    rw [show n + 1 + b = (n + b) + 1 by omega]
    exact fun d hd => T.dle_bind hg (h d hd)
/-- a def that draws nothing -/
theorem mkFn_ret {n np : Nat} {body : MS} {ds : List D} {d : D} {e : Ev} (hl : ds.length = np) (h : body (startM n ds) = .ret (.rt d, e)) : mkFn n np body ds = .ret d := by
  unfold mkFn
  rw [if_pos hl, h]
  rfl
theorem mkFn_nx {n np : Nat} {body : MS} {ds : List D} {e : Ev} (hl : ds.length = np) (h : body (startM n ds) = .ret (.nx, e)) : mkFn n np body ds = .ret .non := by
  unfold mkFn
  rw [if_pos hl, h]
  rfl
theorem mkFn_all {n np : Nat} {body : MS} {ds : List D} {Q : D → Prop} (hl : ds.length = np) (h : (body (startM n ds)).all fun r => (match r.1 with | .rt d => (T.ret d : T D) | .nx => .ret .non | _ => .fail).all Q) : (mkFn n np body ds).all Q := by
  unfold mkFn
  rw [if_pos hl]
  exact T.all_bind.mpr h

/-! ### the terms, step by step -/
@[simp] theorem ite_bind {α β : Type} {p : Prop} [Decidable p] (a b : T α) (f : α → T β) : (if p then a else b).bind f = if p then a.bind f else b.bind f := by split <;> rfl
@[simp] theorem draw_bind {α β : Type} (k : Nat) (f : Nat → T α) (g : α → T β) : (T.draw k f).bind g = T.draw k fun d => (f d).bind g := rfl
section
variable {env e : Ev} {m m1 m2 m3 : M} {ms : MH} {t u : MT} {s s' : MS} {d : D} {b c : Bool} {i : Nat}
@[simp] theorem eVar_e : eVar i env = match env[i]? with | some (some (false, d)) => .ret (.val d, env) | some (some (true, _)) => .ret (.slot i, env) | _ => .fail := rfl
@[simp] theorem eC_e : eC d env = .ret (.val d, env) := rfl
@[simp] theorem eOp_e {g : D → D → Option Hd} : eOp g m1 m2 env = (m1 env).bind fun r1 => (m2 r1.2).bind fun r2 => f2 g r2.2 r1.1 r2.1 := rfl
@[simp] theorem eUn_e {g : D → Option Hd} : eUn g m env = (m env).bind fun r1 => f1 g r1.2 r1.1 := rfl
def okH (env : Ev) : Option Hd → T (Hd × Ev)
  | some h => .ret (h, env)
  | none => .fail
@[simp] theorem okH_s {h : Hd} : okH env (some h) = .ret (h, env) := rfl
@[simp] theorem okH_ite {p : Prop} [Decidable p] {a b : Option Hd} : okH env (if p then a else b) = if p then okH env a else okH env b := by split <;> rfl
@[simp] theorem f2_e {g : D → D → Option Hd} {h1 h2 : Hd} : f2 g env h1 h2 = match rs env h1, rs env h2 with | some d1, some d2 => okH env (g d1 d2) | _, _ => .fail := by
  unfold f2 okH
  cases rs env h1 <;> cases rs env h2 <;> rfl
@[simp] theorem f1_e {g : D → Option Hd} {h1 : Hd} : f1 g env h1 = match rs env h1 with | some d1 => okH env (g d1) | none => .fail := by
  unfold f1 okH
  cases rs env h1 <;> rfl
@[simp] theorem rs_val : rs env (.val d) = some d := rfl
@[simp] theorem rs_tmp : rs env (.tmp d) = some d := rfl
@[simp] theorem rs_slot : rs env (.slot i) = match env[i]? with | some (some (_, d)) => some d | _ => none := rfl
@[simp] theorem fz_val : fz env (.val d) = some (d, env) := rfl
@[simp] theorem fz_tmp : fz env (.tmp d) = some (d, env) := rfl
@[simp] theorem fz_slot : fz env (.slot i) = match env[i]? with | some (some (_, d)) => some (d, env.set i (some (false, d))) | _ => none := rfl
@[simp] theorem rss_nil : rss env [] = some [] := rfl
@[simp] theorem rss_cons {h : Hd} {hs : List Hd} : rss env (h :: hs) = match rs env h, rss env hs with | some d, some ds => some (d :: ds) | _, _ => none := rfl
@[simp] theorem fzs_nil : fzs env [] = some ([], env) := rfl
@[simp] theorem fzs_cons {h : Hd} {hs : List Hd} : fzs env (h :: hs) = match fz env h with | some (d, e') => (match fzs e' hs with | some (ds, e'') => some (d :: ds, e'') | none => none) | none => none := rfl
@[simp] theorem hNil_e : hNil env = .ret ([], env) := rfl
@[simp] theorem hCons_e : hCons m ms env = (m env).bind fun r1 => (ms r1.2).bind fun r2 => .ret (r1.1 :: r2.1, r2.2) := rfl
def rssK (env : Ev) (f : List D → T (Hd × Ev)) : Option (List D) → T (Hd × Ev)
  | some ds => f ds
  | none => .fail
@[simp] theorem rssK_s {f : List D → T (Hd × Ev)} {ds : List D} : rssK env f (some ds) = f ds := rfl
@[simp] theorem eCall_e {g : List D → Option Hd} : eCall ms g env = (ms env).bind fun r => rssK r.2 (fun ds => okH r.2 (g ds)) (rss r.2 r.1) := by
  unfold eCall
  refine congrArg _ (funext fun r => ?_)
  cases rss r.2 r.1 with
  | none => rfl
  | some ds => show (match g ds with | some h => _ | none => _) = okH r.2 (g ds); cases g ds <;> rfl
def fzK (f : List D → Ev → T (Hd × Ev)) : Option (List D × Ev) → T (Hd × Ev)
  | some (ds, e) => f ds e
  | none => .fail
@[simp] theorem fzK_s {f : List D → Ev → T (Hd × Ev)} {ds : List D} : fzK f (some (ds, e)) = f ds e := rfl
@[simp] theorem eTup_e : eTup ms env = (ms env).bind fun r => fzK (fun ds e => .ret (.val (.tup ds), e)) (fzs r.2 r.1) := by
  unfold eTup; refine congrArg _ (funext fun r => ?_); cases fzs r.2 r.1 <;> rfl
@[simp] theorem eLst_e : eLst ms env = (ms env).bind fun r => fzK (fun ds e => .ret (.tmp (.lst ds), e)) (fzs r.2 r.1) := by
  unfold eLst; refine congrArg _ (funext fun r => ?_); cases fzs r.2 r.1 <;> rfl
@[simp] theorem eDef_e {g : List D → T D} : eDef g ms env = (ms env).bind fun r => fzK (fun ds e => (g ds).bind fun d => .ret (.val d, if lf d = true then r.2 else e)) (fzs r.2 r.1) := by
  unfold eDef; refine congrArg _ (funext fun r => ?_); cases fzs r.2 r.1 <;> rfl
def blK {α : Type} (f : Bool → Ev → T α) : Hd × Ev → T α
  | (.val (.bl b), e) => f b e
  | _ => .fail
@[simp] theorem blK_b {α : Type} {f : Bool → Ev → T α} : blK f (.val (.bl b), e) = f b e := rfl
@[simp] theorem mTest_e : mTest m env = (m env).bind (blK fun b e => .ret (b, e)) := by
  unfold mTest; refine congrArg _ (funext fun r => ?_); obtain ⟨h, e⟩ := r; cases h with | val d => cases d <;> rfl | slot i => rfl | tmp d => rfl
@[simp] theorem eAnd_e : eAnd m1 m2 env = (m1 env).bind (blK fun b e => if b = true then m2 e else .ret (.val (.bl false), e)) := by
  unfold eAnd; refine congrArg _ (funext fun r => ?_); obtain ⟨h, e⟩ := r; cases h with | val d => (cases d with | bl b => cases b <;> rfl | _ => rfl) | slot i => rfl | tmp d => rfl
@[simp] theorem eOr_e : eOr m1 m2 env = (m1 env).bind (blK fun b e => if b = true then .ret (.val (.bl true), e) else m2 e) := by
  unfold eOr; refine congrArg _ (funext fun r => ?_); obtain ⟨h, e⟩ := r; cases h with | val d => (cases d with | bl b => cases b <;> rfl | _ => rfl) | slot i => rfl | tmp d => rfl
@[simp] theorem eNotV_e : eNotV m env = (m env).bind (blK fun b e => .ret (.val (.bl (!b)), e)) := by
  unfold eNotV; refine congrArg _ (funext fun r => ?_); obtain ⟨h, e⟩ := r; cases h with | val d => cases d <;> rfl | slot i => rfl | tmp d => rfl
@[simp] theorem mAnd_e : mAnd t u env = (t env).bind fun r => if r.1 = true then u r.2 else .ret (false, r.2) := by
  unfold mAnd; refine congrArg _ (funext fun r => ?_); obtain ⟨b, e⟩ := r; cases b <;> rfl
@[simp] theorem mOr_e : mOr t u env = (t env).bind fun r => if r.1 = true then .ret (true, r.2) else u r.2 := by
  unfold mOr; refine congrArg _ (funext fun r => ?_); obtain ⟨b, e⟩ := r; cases b <;> rfl
@[simp] theorem mNot_e : mNot t env = (t env).bind fun r => .ret (!r.1, r.2) := rfl
@[simp] theorem mYes_e : mYes env = .ret (true, env) := rfl
@[simp] theorem eIf_e : eIf t m1 m2 env = (t env).bind fun r => if r.1 = true then m1 r.2 else m2 r.2 := by
  unfold eIf; refine congrArg _ (funext fun r => ?_); obtain ⟨b, e⟩ := r; cases b <;> rfl
@[simp] theorem sIf_e : sIf t s s' env = (t env).bind fun r => if r.1 = true then s r.2 else s' r.2 := by
  unfold sIf; refine congrArg _ (funext fun r => ?_); obtain ⟨b, e⟩ := r; cases b <;> rfl
@[simp] theorem eIsi_e {T' : String} : eIsi T' m env = (m env).bind fun r => match rs r.2 r.1 with | some d => okH r.2 ((gIsi T' d).map fun b => .val (.bl b)) | none => .fail := by
  unfold eIsi; refine congrArg _ (funext fun r => ?_)
  cases rs r.2 r.1 with
  | none => rfl
  | some d => dsimp only; cases gIsi T' d <;> rfl
@[simp] theorem gIsi_tuple {l : List D} : gIsi "tuple" (.tup l) = some true := by simp [gIsi, tyD, isK]
@[simp] theorem gIsi_int {j : Int} : gIsi "int" (.int j) = some true := by simp [gIsi, tyD, isK]
@[simp] theorem gIsi_intb : gIsi "int" (.bl b) = some true := by simp [gIsi, tyD, isK]
@[simp] theorem gIsi_bool {j : Int} : gIsi "bool" (.int j) = some false := by simp [gIsi, tyD, isK]
@[simp] theorem gIsi_boolb : gIsi "bool" (.bl b) = some true := by simp [gIsi, tyD, isK]
def chK (f : Ev → T (Hd × Ev)) (e : Ev) : Option Hd → T (Hd × Ev)
  | some (.val (.bl b)) => if b = true then f e else .ret (.val (.bl false), e)
  | _ => .fail
@[simp] theorem chK_b {f : Ev → T (Hd × Ev)} : chK f e (some (.val (.bl b))) = if b = true then f e else .ret (.val (.bl false), e) := rfl
@[simp] theorem eChain_e {g g' : D → D → Option Hd} : eChain g g' m1 m2 m3 env = (m1 env).bind fun r1 => (m2 r1.2).bind fun r2 => match rs r2.2 r1.1, rs r2.2 r2.1 with
    | some d1, some d2 => chK (fun e => (m3 e).bind fun r3 => match rs r3.2 r2.1, rs r3.2 r3.1 with | some d2, some d3 => okH r3.2 (g' d2 d3) | _, _ => .fail) r2.2 (g d1 d2)
    | _, _ => .fail := by
  unfold eChain; refine congrArg _ (funext fun r1 => congrArg _ (funext fun r2 => ?_))
  cases rs r2.2 r1.1 with
  | none => rfl
  | some d1 =>
    cases rs r2.2 r2.1 with
    | none => rfl
    | some d2 =>
      dsimp only
      cases g d1 d2 with
      | none => rfl
      | some h =>
        cases h with
        | val d =>
          cases d with
          | bl b =>
            cases b with
            | true =>
              rw [chK_b, if_pos rfl]
              refine congrArg (T.bind (m3 r2.2)) (funext fun r3 => ?_)
              cases rs r3.2 r2.1 with
              | none => rfl
              | some a =>
                cases rs r3.2 r3.1 with
                | none => rfl
                | some b' => dsimp only; cases g' a b' <;> rfl
            | false => rfl
          | _ => rfl
        | _ => rfl
@[simp] theorem gI_e {g : Int → Int → Option D} {x y : Int} : gI g (.int x) (.int y) = (g x y).map .val := rfl
@[simp] theorem iSub_e {x y : Int} : iSub x y = some (.int (x - y)) := rfl
@[simp] theorem iLe_e {x y : Int} : iLe x y = some (.bl (decide (x ≤ y))) := rfl
@[simp] theorem iGt_e {x y : Int} : iGt x y = some (.bl (decide (y < x))) := rfl
@[simp] theorem iGe_e {x y : Int} : iGe x y = some (.bl (decide (y ≤ x))) := rfl
@[simp] theorem gLt_int {x y : Int} : gLt (.int x) (.int y) = some (.val (.bl (decide (x < y)))) := rfl
@[simp] theorem gEq_int {x y : Int} : gEq (.int x) (.int y) = some (.val (.bl (x == y))) := rfl
@[simp] theorem gNe_int {x y : Int} : gNe (.int x) (.int y) = some (.val (.bl (!(x == y)))) := rfl
@[simp] theorem gAdd_int {x y : Int} : gAdd (.int x) (.int y) = some (.val (.int (x + y))) := rfl
@[simp] theorem gAdd_tup {l l' : List D} : gAdd (.tup l) (.tup l') = if l.length + l'.length ≤ 16777216 then some (.val (.tup (l ++ l'))) else none := rfl
@[simp] theorem g1_e {g : D → Option Hd} : g1 g [d] = g d := rfl
@[simp] theorem gI2_e {g : Int → Int → Int} {x y : Int} : gI2 g [.int x, .int y] = some (.val (.int (g x y))) := rfl
@[simp] theorem lenD_tup {l : List D} : lenD (.tup l) = some (.val (.int l.length)) := rfl
@[simp] theorem lenD_lst {l : List D} : lenD (.lst l) = some (.val (.int l.length)) := rfl
@[simp] theorem lenD_scr {l : List Int} : lenD (.scr l) = some (.val (.int l.length)) := rfl
@[simp] theorem intD_int {x : Int} : intD (.int x) = some (.val (.int x)) := rfl
@[simp] theorem intD_bl : intD (.bl b) = some (.val (.int (if b then 1 else 0))) := rfl
@[simp] theorem listD_lst {l : List D} : listD (.lst l) = some (.tmp (.lst l)) := rfl
@[simp] theorem listD_tup {l : List D} : listD (.tup l) = some (.tmp (.lst l)) := rfl
@[simp] theorem tupleD_lst {l : List D} : tupleD (.lst l) = some (.val (.tup l)) := rfl
@[simp] theorem tupleD_tup {l : List D} : tupleD (.tup l) = some (.val (.tup l)) := rfl
@[simp] theorem sumD_ints {ns : List Int} : sumD (.lst (ns.map .int)) = some (.val (.int ns.sum)) := by simp [sumD, seqD]
@[simp] theorem sumD_intt {ns : List Int} : sumD (.tup (ns.map .int)) = some (.val (.int ns.sum)) := by simp [sumD, seqD]
@[simp] theorem allD_bls {ns : List Bool} : allD (.lst (ns.map .bl)) = some (.val (.bl (ns.all id))) := by simp [allD, seqD]
@[simp] theorem anyD_bls {ns : List Bool} : anyD (.lst (ns.map .bl)) = some (.val (.bl (ns.any id))) := by simp [anyD, seqD]
@[simp] theorem truTrue : isN .non = some true := rfl
@[simp] theorem sNext_e : sNext env = .ret (.nx, env) := rfl
@[simp] theorem sRetN_e : sRetN env = .ret (.rt .non, env) := rfl
@[simp] theorem sNever_e : sNever env = .fail := rfl
def sqK (s' : MS) : Fl × Ev → T (Fl × Ev)
  | (.nx, e) => s' e
  | r => .ret r
@[simp] theorem sqK_nx : sqK s' (.nx, e) = s' e := rfl
@[simp] theorem sqK_rt : sqK s' (.rt d, e) = .ret (.rt d, e) := rfl
@[simp] theorem sqK_bk : sqK s' (.bk, e) = .ret (.bk, e) := rfl
@[simp] theorem sqK_ct : sqK s' (.ct, e) = .ret (.ct, e) := rfl
@[simp] theorem sSeq_e : sSeq s s' env = (s env).bind (sqK s') := by
  unfold sSeq; refine congrArg _ (funext fun r => ?_); obtain ⟨f, e⟩ := r; cases f <;> rfl
def fz1K {α : Type} (f : D → Ev → T α) : Option (D × Ev) → T α
  | some (d, e) => f d e
  | none => .fail
@[simp] theorem fz1K_s {α : Type} {f : D → Ev → T α} : fz1K f (some (d, e)) = f d e := rfl
@[simp] theorem sRet_e : sRet m env = (m env).bind fun r => fz1K (fun d e => .ret (.rt d, e)) (fz r.2 r.1) := by
  unfold sRet; refine congrArg _ (funext fun r => ?_); cases fz r.2 r.1 <;> rfl
@[simp] theorem sDrop_e : sDrop m env = (m env).bind fun r => .ret (.nx, r.2) := rfl
def evK (f : Ev → T (Fl × Ev)) : Option Ev → T (Fl × Ev)
  | some e => f e
  | none => .fail
@[simp] theorem evK_s {f : Ev → T (Fl × Ev)} : evK f (some e) = f e := rfl
@[simp] theorem sSet_e : sSet i m env = (m env).bind fun r => evK (fun e => .ret (.nx, e)) (put i r) := by
  unfold sSet; refine congrArg _ (funext fun r => ?_); cases put i r <;> rfl
@[simp] theorem put_e {r : Hd × Ev} : put i r = if i < r.2.length then match r.1 with | .val d => some (r.2.set i (some (false, d))) | .tmp d => some (r.2.set i (some (true, d))) | .slot j => match fz r.2 (.slot j) with | some (d, env') => some (env'.set i (some (false, d))) | none => none else none := rfl
@[simp] theorem sAsg_e {g : GM} : sAsg m g env = (m env).bind fun r => fz1K (fun d e => evK (fun e => .ret (.nx, e)) (g d e)) (fz r.2 r.1) := by
  unfold sAsg; refine congrArg _ (funext fun r => ?_)
  cases fz r.2 r.1 with
  | none => rfl
  | some z => obtain ⟨d, e⟩ := z; show (match g d e with | some e => _ | none => _) = evK _ (g d e); cases g d e <;> rfl
@[simp] theorem gNm_e : gNm i d env = if i < env.length then some (env.set i (some (false, d))) else none := rfl
@[simp] theorem gsNil_e : gsNil [] env = some env := rfl
@[simp] theorem gsCons_e {g : GM} {gs : List D → Ev → Option Ev} {ds : List D} : gsCons g gs (d :: ds) env = (g d env).bind (gs ds) := rfl
@[simp] theorem sFor_e {src : MI} {g : GM} : sFor src g s env = (src env).bind fun r => forL g s r.1 r.2 := rfl
@[simp] theorem iSeq_e : iSeq m env = (m env).bind fun r => fz1K (fun d e => match walkD d with | some l => .ret (l, e) | none => .fail) (fz r.2 r.1) := by
  unfold iSeq; refine congrArg _ (funext fun r => ?_); cases fz r.2 r.1 <;> rfl
@[simp] theorem walk_tup {l : List D} : walkD (.tup l) = some l := rfl
@[simp] theorem walk_lst {l : List D} : walkD (.lst l) = some l := rfl
@[simp] theorem walk_scr {l : List Int} : walkD (.scr l) = some (l.map .int) := rfl
@[simp] theorem eFrz_e {is : List Nat} : eFrz is m env = m (frzAll is env) := rfl
end
end Mi
set_option Elab.async false
set_option linter.all false
set_option maxRecDepth 100000
set_option maxHeartbeats 2000000
namespace Mi
open PySem PySem.Spec PyProof.Rows L2

/-! ### comprehensions -/
def stepE (g : GM) (tt : MT) (elt : M) (vs : List Nat) (d : D) (env : Ev) : T (Option D × Ev) := evK' (g d env)
where
  evK' : Option Ev → T (Option D × Ev)
    | some env1 => (tt env1).bind fun rb => if rb.1 = true then (elt rb.2).bind fun re => fz1K (fun x e => .ret (some x, wipeE e vs)) (fz re.2 re.1) else .ret (none, wipeE rb.2 vs)
    | none => .fail
@[simp] theorem stepE_e {g : GM} {tt : MT} {elt : M} {vs : List Nat} {d : D} {env : Ev} : stepE g tt elt vs d env = stepE.evK' tt elt vs (g d env) := rfl
@[simp] theorem stepE_s {tt : MT} {elt : M} {vs : List Nat} {env1 : Ev} : stepE.evK' tt elt vs (some env1) = (tt env1).bind fun rb => if rb.1 = true then (elt rb.2).bind fun re => fz1K (fun x e => .ret (some x, wipeE e vs)) (fz re.2 re.1) else .ret (none, wipeE rb.2 vs) := rfl
theorem compL_cons {g : GM} {tt : MT} {elt : M} {vs : List Nat} {d : D} {ds acc : List D} {env : Ev} : compL g tt elt vs (d :: ds) acc env = (stepE g tt elt vs d env).bind fun r => compL g tt elt vs ds (acc ++ r.1.toList) r.2 := by
  rw [stepE_e]
  simp only [compL]
  cases g d env with
  | none => rfl
  | some env1 =>
    simp only [stepE_s, bind_assoc]
    refine congrArg (T.bind (tt env1)) (funext fun rb => ?_)
    obtain ⟨b, e⟩ := rb
    cases b with
    | true =>
      simp only [if_true, bind_assoc]
      refine congrArg (T.bind (elt e)) (funext fun re => ?_)
      cases fz re.2 re.1 with
      | none => rfl
      | some z => rfl
    | false => simp
where
  bind_assoc {α β γ : Type} {t : T α} {f : α → T β} {g : β → T γ} : (t.bind f).bind g = t.bind fun a => (f a).bind g := by
    induction t with
    | ret a => rfl
    | fail => rfl
    | draw k f ih => exact congrArg (T.draw k) (funext fun d => ih d)
theorem compL_map {α : Type} {g : GM} {tt : MT} {elt : M} {vs : List Nat} {env : Ev} (c : α → D) (p : α → Bool) (f : α → D) : ∀ (xs : List α) (acc : List D), (∀ x ∈ xs, stepE g tt elt vs (c x) env = .ret (if p x = true then some (f x) else none, env)) →
    compL g tt elt vs (xs.map c) acc env = .ret (acc ++ (xs.filter p).map f, env)
  | [], acc, _ => by simp [compL]
  | x :: xs, acc, h => by
    rw [List.map_cons, compL_cons, h x List.mem_cons_self]
    simp only [T.ret_bind]
    rw [compL_map c p f xs _ fun y m => h y (List.mem_cons_of_mem _ m)]
    cases hp : p x <;> simp [hp]
/-- a comprehension that draws nothing and leaves all names as they are -/
theorem comp_map {α : Type} {vs : List Nat} {src : MI} {g : GM} {tt : MT} {elt : M} {env env1 : Ev} (xs : List α) (c : α → D) (p : α → Bool) (f : α → D) (hs : src env = .ret (xs.map c, env1)) (hv : vs.all (free1 env1) = true)
    (hb : ∀ x ∈ xs, stepE g tt elt vs (c x) (wipeE env1 vs) = .ret (if p x = true then some (f x) else none, wipeE env1 vs)) : eComp vs src g tt elt env = .ret (.tmp (.lst ((xs.filter p).map f)), backE (wipeE env1 vs) env1 vs) := by
  unfold eComp
  rw [hs]
  simp only [T.ret_bind]
  rw [if_pos hv, compL_map c p f xs [] hb]
  rfl
theorem comp_each {α : Type} {vs : List Nat} {src : MI} {g : GM} {tt : MT} {elt : M} {env env1 : Ev} (xs : List α) (c : α → D) (f : α → D) (hs : src env = .ret (xs.map c, env1)) (hv : vs.all (free1 env1) = true)
    (hb : ∀ x ∈ xs, stepE g tt elt vs (c x) (wipeE env1 vs) = .ret (some (f x), wipeE env1 vs)) : eComp vs src g tt elt env = .ret (.tmp (.lst (xs.map f)), backE (wipeE env1 vs) env1 vs) := by
  rw [comp_map xs c (fun _ => true) f hs hv (fun x m => by simpa using hb x m), List.filter_eq_self.mpr (fun _ _ => rfl)]
theorem cut_from (l : List D) : cutD l (some 1) none = l.tail := by
  rw [← List.drop_one]
  unfold cutD
  rw [show HT.sIx l.length 0 (some 1) = min 1 l.length from HT.sIx_nat l.length 0 1, HT.sIx_none]
  cases l with
  | nil => rfl
  | cons x l => simp
theorem cut_to (l : List D) (k : Nat) : cutD l none (some (k : Int)) = l.take k := by
  unfold cutD
  rw [HT.sIx_none, HT.sIx_nat]
  simp [List.take_eq_take_iff]
@[simp] theorem eSl_e {m : M} {lo hi : MO} {env : Ev} : eSl m lo hi env = (m env).bind fun r1 => (lo r1.2).bind fun r2 => (hi r2.2).bind fun r3 => match rs r3.2 r1.1 with | some d => okH r3.2 (gSl d r2.1 r3.1) | none => .fail := by
  unfold eSl
  refine congrArg _ (funext fun r1 => congrArg _ (funext fun r2 => congrArg _ (funext fun r3 => ?_)))
  cases rs r3.2 r1.1 with
  | none => rfl
  | some d => dsimp only; cases gSl d r2.1 r3.1 <;> rfl
@[simp] theorem oNone_e {env : Ev} : oNone env = .ret (none, env) := rfl
@[simp] theorem oSome_e {m : M} {env : Ev} : oSome m env = (m env).bind fun r => match r.1 with | .val (.int i) => .ret (some i, r.2) | _ => .fail := rfl
@[simp] theorem gSl_tup {l : List D} {a b : Option Int} : gSl (.tup l) a b = some (.val (.tup (cutD l a b))) := rfl
@[simp] theorem gSl_lst {l : List D} {a b : Option Int} : gSl (.lst l) a b = some (.tmp (.lst (cutD l a b))) := rfl
theorem zipL_map {α β : Type} (c : α → D) (c' : β → D) : ∀ (xs : List α) (ys : List β), zipL (xs.map c) (ys.map c') = (xs.zip ys).map fun z => .tup [c z.1, c' z.2]
  | [], ys => by simp [zipL]
  | x :: xs, [] => by simp [zipL]
  | x :: xs, y :: ys => by simp [zipL, zipL_map c c' xs ys]
@[simp] theorem iZipM_e {ms : MH} {env : Ev} : iZipM ms env = (ms env).bind fun r => match fzs r.2 r.1 with | some ([d, d'], env') => (match walkD d, walkD d' with | some l, some l' => .ret (zipL l l', env') | _, _ => .fail) | _ => .fail := rfl
@[simp] theorem iEnumM_e {ms : MH} {env : Ev} : iEnumM ms env = (ms env).bind fun r => match fzs r.2 r.1 with | some ([d], env') => (match walkD d with | some l => .ret (enumL 0 l, env') | none => .fail) | _ => .fail := rfl
def rngK (env : Ev) : Option (Int × Int) → T (List D × Ev)
  | some z => .ret (rgD z.1 z.2, env)
  | none => .fail
@[simp] theorem rngK_s {env : Ev} {a b : Int} : rngK env (some (a, b)) = .ret (rgD a b, env) := rfl
def rssI (f : List D → T (List D × Ev)) : Option (List D) → T (List D × Ev)
  | some ds => f ds
  | none => .fail
@[simp] theorem rssI_s {f : List D → T (List D × Ev)} {ds : List D} : rssI f (some ds) = f ds := rfl
@[simp] theorem iRng_e {ms : MH} {env : Ev} : iRng ms env = (ms env).bind fun r => rssI (fun ds => rngK r.2 (rg2 ds)) (rss r.2 r.1) := by
  unfold iRng
  refine congrArg _ (funext fun r => ?_)
  cases rss r.2 r.1 with
  | none => rfl
  | some ds => rw [rssI_s]; dsimp only; cases rg2 ds with | none => rfl | some z => rfl
theorem rg2_nat {n : Nat} (h : n ≤ 16777216) : rg2 [.int n] = some (0, (n : Int)) := by
  have : rgOk 0 (n : Int) = true := by unfold rgOk; exact decide_eq_true (by omega)
  simp [rg2, this]
theorem rgD_nat (n : Nat) : rgD 0 (n : Int) = (List.range n).map fun i : Nat => D.int i := by
  unfold rgD; simp
theorem enumL_zip : ∀ (k : Nat) (l : List D), enumL k l = (l.zipIdx k).map fun z => .tup [.int z.2, z.1]
  | _, [] => rfl
  | k, d :: ds => by simp [enumL, enumL_zip (k + 1) ds]
@[simp] theorem gTp_tup {n : Nat} {gs : List D → Ev → Option Ev} {l : List D} {env : Ev} : gTp n gs (.tup l) env = if l.length = n then gs l env else none := by
  unfold gTp
  rfl

theorem iRng1_of {m : M} {env env' : Ev} {n : Nat} (h : m env = .ret (.val (.int n), env')) (hn : n ≤ 16777216) : iRng (hCons m hNil) env = .ret ((List.range n).map fun i : Nat => D.int i, env') := by
  rw [iRng_e, hCons_e, h, T.ret_bind, hNil_e, T.ret_bind, T.ret_bind, rss_cons, rss_nil, rs_val]
  dsimp only
  rw [rssI_s, rg2_nat hn, rngK_s, rgD_nat]
end Mi
set_option Elab.async false
set_option linter.all false
set_option maxRecDepth 100000
set_option maxHeartbeats 2000000
namespace Mi
open PySem PySem.Spec PyProof.Rows L2

/-! ### rows of ints -/
abbrev row (l : List Int) : D := .tup (l.map .int)
theorem eqD_int {i j : Int} : ∀ n : Nat, 0 < n → eqDn n (.int i) (.int j) = some (i == j)
  | n + 1, _ => rfl
theorem ltD_int {i j : Int} : ∀ n : Nat, 0 < n → ltDn n (.int i) (.int j) = some (decide (i < j))
  | n + 1, _ => rfl
theorem eqL_ints {n : Nat} (h : 0 < n) : ∀ a b : List Int, eqL (eqDn n) (a.map .int) (b.map .int) = some (decide (a = b))
  | [], [] => rfl
  | [], _ :: _ => rfl
  | _ :: _, [] => rfl
  | x :: a, y :: b => by
    simp only [List.map_cons, eqL, eqD_int n h, eqL_ints h a b]
    by_cases e : x = y
    · subst e; simp
    · simp [e]
theorem ltL_ints {n : Nat} (h : 0 < n) : ∀ a b : List Int, ∃ c, ltL (eqDn n) (ltDn n) (a.map .int) (b.map .int) = some c
  | [], [] => ⟨_, rfl⟩
  | [], _ :: _ => ⟨_, rfl⟩
  | _ :: _, [] => ⟨_, rfl⟩
  | x :: a, y :: b => by
    obtain ⟨c, hc⟩ := ltL_ints h a b
    simp only [List.map_cons, ltL, eqD_int n h, hc, ltD_int n h]
    cases hxy : (x == y) with
    | true => exact ⟨c, rfl⟩
    | false => exact ⟨decide (x < y), rfl⟩
theorem eqRow (a b : List Int) : eqDn DEEP (row a) (row b) = some (decide (a = b)) := by
  show eqL (eqDn 39) _ _ = _
  exact eqL_ints (by decide) a b
theorem ltRow (a b : List Int) : ltDn DEEP (row a) (row b) = some (rowB (enc (row a)) (enc (row b))) := by
  obtain ⟨c, hc⟩ := ltL_ints (n := 39) (by decide) a b
  have : ltDn DEEP (row a) (row b) = some c := hc
  rw [this, ltDn_row this]
def rowLe (a b : List Int) : Bool := !rowB (enc (row b)) (enc (row a))
def srt (L : List (List Int)) : List (List Int) := L.mergeSort rowLe
theorem plInts : ∀ l : List Int, plDs (l.map .int) = true
  | [] => rfl
  | x :: l => by simp [plDs, plD, plInts l]
theorem plRows : ∀ L : List (List Int), plDs (L.map row) = true
  | [] => rfl
  | x :: L => by simp [plDs, plD, plInts x, plRows L]
theorem sortOk_rows (L : List (List Int)) : sortOk (L.map row) = true := by
  unfold sortOk
  rw [plRows]
  simp only [Bool.true_and, Bool.and_eq_true, Bool.or_eq_true]
  refine ⟨.inr ?_, .inr ?_⟩
  · rw [List.all_eq_true]
    intro x m
    obtain ⟨a, _, rfl⟩ := List.mem_map.mp m
    rfl
  · rw [List.all_eq_true]
    intro x m
    obtain ⟨a, _, rfl⟩ := List.mem_map.mp m
    rw [List.all_eq_true]
    intro y m
    obtain ⟨b, _, rfl⟩ := List.mem_map.mp m
    rw [ltRow]; rfl
theorem sortL_rows (L : List (List Int)) : sortL (L.map row) = (srt L).map row := by
  unfold sortL srt
  exact (PySem.W.sort_maps row fun a _ b _ => rfl).symm
@[simp] theorem sorted_rows (L : List (List Int)) : sortedD (.lst (L.map row)) = some (.tmp (.lst ((srt L).map row))) := by
  show (if sortOk (L.map row) = true then some (Hd.tmp (.lst (sortL (L.map row)))) else none) = _
  rw [if_pos (sortOk_rows L), sortL_rows]
theorem sortOk_ints (l : List Int) : sortOk (l.map .int) = true := by
  unfold sortOk
  rw [plInts]
  simp only [Bool.true_and, Bool.and_eq_true, Bool.or_eq_true]
  refine ⟨.inl (.inl ?_), .inr ?_⟩
  · rw [List.all_eq_true]
    intro x m
    obtain ⟨a, _, rfl⟩ := List.mem_map.mp m
    rfl
  · rw [List.all_eq_true]
    intro x m
    obtain ⟨a, _, rfl⟩ := List.mem_map.mp m
    rw [List.all_eq_true]
    intro y m
    obtain ⟨b, _, rfl⟩ := List.mem_map.mp m
    rw [ltD_int _ (by decide)]; rfl
def isrt (l : List Int) : List Int := l.mergeSort fun a b => decide (a ≤ b)
@[simp] theorem sorted_ints (l : List Int) : sortedD (.lst (l.map .int)) = some (.tmp (.lst ((isrt l).map .int))) := by
  show (if sortOk (l.map .int) = true then some (Hd.tmp (.lst (sortL (l.map .int)))) else none) = _
  rw [if_pos (sortOk_ints l)]
  have : sortL (l.map .int) = (isrt l).map .int := by
    unfold sortL isrt
    refine (PySem.W.sort_maps D.int fun a _ b _ => ?_).symm
    show decide (a ≤ b) = !rowB [b] [a]
    have : rowB [b] [a] = decide (b < a) := by
      show (if b = a then false else decide (b < a)) = _
      by_cases e : b = a
      · subst e; simp
      · rw [if_neg e]
    rw [this]
    by_cases e : a ≤ b
    · rw [decide_eq_true e, decide_eq_false (by omega)]; rfl
    · rw [decide_eq_false e, decide_eq_true (by omega)]; rfl
  rw [this]
/-- the codes tell the rows apart -/
theorem encs_inj : ∀ {a b : List Int}, encs (a.map .int) = encs (b.map .int) → a = b
  | [], [], _ => rfl
  | [], y :: b, h => by simp [encs] at h
  | x :: a, [], h => by simp [encs] at h
  | x :: a, y :: b, h => by
    simp only [List.map_cons, encs, enc, List.cons_append, List.nil_append, List.cons.injEq, true_and] at h
    rw [h.1, encs_inj h.2]
theorem rowB_total : ∀ p q, rowB p q = false → rowB q p = false → p = q
  | [], [], _, _ => rfl
  | [], _ :: _, h, _ => by cases h
  | _ :: _, [], _, h => by cases h
  | x :: p, y :: q, h, h' => by
    simp only [rowB] at h h'
    by_cases e : x = y
    · subst e
      rw [if_pos rfl] at h h'
      rw [rowB_total p q h h']
    · rw [if_neg e] at h
      rw [if_neg (Ne.symm e)] at h'
      have := of_decide_eq_false h
      have := of_decide_eq_false h'
      omega
theorem rowLe_antisymm {a b : List Int} (h : rowLe a b = true) (h' : rowLe b a = true) : a = b := by
  unfold rowLe at h h'
  simp only [Bool.not_eq_true'] at h h'
  exact encs_inj (rowB_total _ _ h' h)
theorem rowLe_total : PySem.W.TotalLe rowLe := sortTotal fun a => enc (row a)
/-- a sorted list is known by what is in it -/
theorem srt_unique {L M : List (List Int)} (h : M.Perm L) (s : M.Pairwise fun a b => rowLe a b = true) : M = srt L := by
  refine List.Perm.eq_of_pairwise (le := fun a b => rowLe a b = true) (fun a b _ _ => rowLe_antisymm) s (PySem.W.sort_pairwise rowLe_total L) (h.trans (List.mergeSort_perm L rowLe).symm)
theorem srt_congr {L M : List (List Int)} (h : M.Perm L) : srt M = srt L := srt_unique ((List.mergeSort_perm M rowLe).trans h) (PySem.W.sort_pairwise rowLe_total M)
theorem srt_mem {L : List (List Int)} {a : List Int} : a ∈ srt L ↔ a ∈ L := List.mem_mergeSort
theorem srt_filter (p : List Int → Bool) (L : List (List Int)) : (srt L).filter p = srt (L.filter p) :=
  srt_unique ((List.mergeSort_perm L rowLe).filter p) ((PySem.W.sort_pairwise rowLe_total L).filter p)

theorem anyO_ints (x : Int) : ∀ s : List Int, anyO (fun y => eqDn DEEP y (.int x)) (s.map .int) = some (s.contains x)
  | [] => rfl
  | y :: s => by
    simp only [List.map_cons, anyO, anyO_ints x s, eqD_int DEEP (by decide)]
    rw [List.contains_cons]
    by_cases e : y = x
    · subst e; simp
    · have e1 : (y == x) = false := beq_eq_false_iff_ne.mpr e
      have e2 : (x == y) = false := beq_eq_false_iff_ne.mpr (Ne.symm e)
      rw [e1, e2]
def memI (s : List Int) (x : Int) : Bool := s.contains x
theorem memI_iff {s : List Int} {x : Int} : memI s x = true ↔ x ∈ s := by unfold memI; simp
@[simp] theorem gIn_row (x : Int) (s : List Int) : gIn (.int x) (row s) = some (.val (.bl (memI s x))) := by
  unfold gIn inO
  simp only [seqD, anyO_ints, Option.map, memI]
@[simp] theorem gIn_lst (x : Int) (s : List Int) : gIn (.int x) (.lst (s.map .int)) = some (.val (.bl (memI s x))) := by
  unfold gIn inO
  simp only [seqD, anyO_ints, Option.map, memI]
@[simp] theorem gEq_bl (a b : Bool) : gEq (.bl a) (.bl b) = some (.val (.bl (a == b))) := rfl
@[simp] theorem gNe_bl (a b : Bool) : gNe (.bl a) (.bl b) = some (.val (.bl (!(a == b)))) := rfl
@[simp] theorem gIx_0t (d : D) (l : List D) : gIx (.tup (d :: l)) (.int 0) = some (.val d) := by
  simp [gIx, L2.atI, L2.ixN]
@[simp] theorem gIx_1t (d e : D) (l : List D) : gIx (.tup (d :: e :: l)) (.int 1) = some (.val e) := by
  have : (1 : Int) < (l.length + 1 + 1 : Nat) := by omega
  simp [gIx, L2.atI, L2.ixN]
  split <;> first | rfl | omega
@[simp] theorem gIx_0l (d : D) (l : List D) : gIx (.lst (d :: l)) (.int 0) = some (.val d) := by
  simp [gIx, L2.atI, L2.ixN]
@[simp] theorem gIx_1l (d e : D) (l : List D) : gIx (.lst (d :: e :: l)) (.int 1) = some (.val e) := by
  simp [gIx, L2.atI, L2.ixN]
  split <;> first | rfl | omega

theorem fzs_vals (env : Ev) : ∀ l : List D, fzs env (l.map .val) = some (l, env)
  | [] => rfl
  | d :: l => by simp [fzs_vals env l]
theorem fzs_snoc (env : Ev) (l : List Int) (x : Int) : fzs env (l.map (Hd.val ∘ D.int) ++ [Hd.val (.int x)]) = some ((l ++ [x]).map .int, env) := by
  rw [show l.map (Hd.val ∘ D.int) ++ [Hd.val (.int x)] = ((l ++ [x]).map .int).map .val by simp, fzs_vals]

section
variable {α : Type} (xs : List α) (f : α → Bool) (k : α → Int)
theorem allD_map : allD (.lst (xs.map fun x => .bl (f x))) = some (.val (.bl (xs.all f))) := by
  rw [show xs.map (fun x => D.bl (f x)) = (xs.map f).map .bl by simp, allD_bls]; simp
theorem anyD_map : anyD (.lst (xs.map fun x => .bl (f x))) = some (.val (.bl (xs.any f))) := by
  rw [show xs.map (fun x => D.bl (f x)) = (xs.map f).map .bl by simp, anyD_bls]; simp
theorem sumD_map : sumD (.lst (xs.map fun x => .int (k x))) = some (.val (.int (xs.map k).sum)) := by
  rw [show xs.map (fun x => D.int (k x)) = (xs.map k).map .int by simp, sumD_ints]
end
end Mi
set_option Elab.async false
set_option linter.all false
set_option maxRecDepth 100000
set_option maxHeartbeats 2000000
namespace Mi
open PySem PySem.Spec PyProof.Rows L2

/-! ### whatever is drawn, in so many draws -/
inductive T.lim {α : Type} : T α → Nat → (α → Prop) → Prop
  | ret {a : α} {n : Nat} {Q : α → Prop} (q : Q a) : T.lim (.ret a) n Q
  | draw {k n : Nat} {f : Nat → T α} {Q : α → Prop} (h : ∀ d, d < k → T.lim (f d) n Q) : T.lim (.draw k f) (n + 1) Q
theorem T.bind_bind {α β γ : Type} {t : T α} {f : α → T β} {g : β → T γ} : (t.bind f).bind g = t.bind fun a => (f a).bind g := compL_cons.bind_assoc
theorem T.ok_lim {α : Type} {Q : α → Prop} {t : T α} {n : Nat} (h : t.lim n Q) : t.ok n fun _ a => Q a := by
  induction h with
  | ret q => exact q
  | draw h ih => exact fun d hd => ih d hd
theorem T.lim_mono {α : Type} {Q Q' : α → Prop} (h : ∀ a, Q a → Q' a) {t : T α} {n m : Nat} (l : n ≤ m) (q : t.lim n Q) : t.lim m Q' := by
  induction q generalizing m with
  | ret q => exact .ret (h _ q)
  | draw _ ih =>
    obtain ⟨m, rfl⟩ : ∃ m', m = m' + 1 := ⟨m - 1, by omega⟩
    exact .draw fun d hd => ih d hd h (by omega)
theorem T.lim_bind {α β : Type} {Q : α → Prop} {R : β → Prop} {F : α → T β} {m : Nat} (hF : ∀ a, Q a → (F a).lim m R) {t : T α} {n : Nat} (q : t.lim n Q) : (t.bind F).lim (n + m) R := by
  induction q with
  | ret q => exact T.lim_mono (fun _ h => h) (by omega) (hF _ q)
  | @draw k n f Q h ih =>
    rw [show n + 1 + m = (n + m) + 1 by omega]
    exact .draw fun d hd => ih d hd hF
theorem T.lim_then {α β : Type} {Q : α → Prop} {R : β → Prop} {F : α → T β} {t : T α} {n n1 : Nat} (h : t.lim n1 Q) (l : n1 ≤ n) (hF : ∀ a, Q a → (F a).lim (n - n1) R) : (t.bind F).lim n R := by
  have := T.lim_bind hF h
  rwa [show n1 + (n - n1) = n by omega] at this
@[simp] theorem T.lim_ret {α : Type} {Q : α → Prop} {a : α} {n : Nat} : (T.ret a).lim n Q = Q a := propext ⟨fun h => by cases h; assumption, fun h => .ret h⟩
theorem T.lim_draw {α : Type} {Q : α → Prop} {k n : Nat} {f : Nat → T α} (l : 1 ≤ n) (h : ∀ d, d < k → (f d).lim (n - 1) Q) : (T.draw k f).lim n Q := by
  obtain ⟨m, rfl⟩ : ∃ m, n = m + 1 := ⟨n - 1, by omega⟩
  exact .draw h
theorem T.lim_of {α : Type} {Q : α → Prop} {t : T α} {a : α} {n : Nat} (e : t = .ret a) (q : Q a) : t.lim n Q := by rw [e, T.lim_ret]; exact q
theorem take_e {k : Int} (h : 0 < k) (h' : k < 1073741824) : takeG [.pot, .int k] = .draw k.toNat fun d => .ret (.int (d : Nat)) := by
  show (if 0 < k ∧ k < 1073741824 then _ else _) = _
  rw [if_pos ⟨h, h'⟩]
theorem take_lim {k : Int} {n : Nat} {Q : D → Prop} (h : 0 < k) (h' : k < 1073741824) (l : 1 ≤ n) (q : ∀ d : Nat, (d : Int) < k → Q (.int d)) : (takeG [.pot, .int k]).lim n Q := by
  rw [take_e h h']
  refine T.lim_draw l fun d hd => ?_
  rw [T.lim_ret]
  exact q d (by omega)
theorem mkFn_lim {n np N : Nat} {body : MS} {ds : List D} {Q : D → Prop} (hl : ds.length = np) (h : (body (startM n ds)).lim N fun r => (r.1 = .nx ∧ Q .non) ∨ ∃ d, r.1 = .rt d ∧ Q d) : (mkFn n np body ds).lim N Q := by
  unfold mkFn
  rw [if_pos hl]
  refine T.lim_then h (Nat.le_refl _) fun r q => ?_
  obtain ⟨f, e⟩ := r
  rcases q with ⟨e1, q⟩ | ⟨d, e1, q⟩ <;> (dsimp only at e1; subst e1; simpa using q)
section
variable {α : Type} {f : α → D} {g : GM} {body : MS}
theorem forL_lim (I : List α → Ev → Prop) {n : Nat} : ∀ (items pre : List α) (e : Ev), (∀ p x q e, pre ++ items = p ++ x :: q → I p e → ∃ e', g (f x) e = some e' ∧ (body e').lim n fun r => r.1 = .nx ∧ I (p ++ [x]) r.2) → I pre e → (forL g body (items.map f) e).lim (items.length * n) fun r => r.1 = .nx ∧ I (pre ++ items) r.2
  | [], pre, e, _, i => by simpa [forL] using i
  | x :: xs, pre, e, h, i => by
    obtain ⟨e', h1, h2⟩ := h pre x xs e rfl i
    simp only [List.map_cons, forL, h1]
    refine T.lim_then h2 (by rw [List.length_cons, Nat.succ_mul]; omega) fun r q => ?_
    obtain ⟨fl, e2⟩ := r
    obtain ⟨q1, q2⟩ := q
    dsimp only at q1 q2
    subst q1
    have := forL_lim I xs (pre ++ [x]) e2 (fun p y q e hp => h p y q e (by rw [← hp, List.append_assoc]; rfl)) q2
    rw [List.append_assoc] at this
    rw [List.length_cons, Nat.succ_mul, Nat.add_sub_cancel]
    exact this
/-- a loop that draws nothing: the names after each part of it -/
theorem forL_pre (E : List α → Ev) : ∀ (items pre : List α), (∀ p x q, pre ++ items = p ++ x :: q → ∃ e', g (f x) (E p) = some e' ∧ body e' = .ret (.nx, E (p ++ [x]))) → forL g body (items.map f) (E pre) = .ret (.nx, E (pre ++ items))
  | [], pre, _ => by simp [forL]
  | x :: xs, pre, h => by
    obtain ⟨e', h1, h2⟩ := h pre x xs rfl
    simp only [List.map_cons, forL, h1, h2, T.ret_bind]
    have := forL_pre E xs (pre ++ [x]) fun p y q hp => h p y q (by rw [← hp, List.append_assoc]; rfl)
    rw [List.append_assoc] at this
    exact this
theorem forL_of (E : List α → Ev) {items : List α} {e0 : Ev} (h0 : e0 = E []) (h : ∀ p x q, items = p ++ x :: q → ∃ e', g (f x) (E p) = some e' ∧ body e' = .ret (.nx, E (p ++ [x]))) : forL g body (items.map f) e0 = .ret (.nx, E items) := by
  rw [h0]
  exact forL_pre E items [] h
end
@[simp] theorem frz_nil {e : Ev} : frzAll [] e = e := rfl
@[simp] theorem frz_cons {i : Nat} {is : List Nat} {e : Ev} : frzAll (i :: is) e = match e[i]? with | some (some (true, d)) => frzAll is (e.set i (some (false, d))) | _ => frzAll is e := rfl
def lastS {α : Type} (f : α → Bool × D) (l : List α) : Slot := l.getLast?.map f
@[simp] theorem lastS_nil {α : Type} {f : α → Bool × D} : lastS f [] = none := rfl
@[simp] theorem lastS_snoc {α : Type} {f : α → Bool × D} {l : List α} {x : α} : lastS f (l ++ [x]) = some (f x) := by simp [lastS]
theorem pre_lt {α : Type} {l p q : List α} {x : α} (h : l = p ++ x :: q) : p.length < l.length := by rw [h]; simp
def okM (env : Ev) (i : Nat) : Option (List D × D) → T (Hd × Ev)
  | some (l', d) => .ret (.val d, env.set i (some (true, .lst l')))
  | none => .fail
@[simp] theorem okM_s {env : Ev} {i : Nat} {l' : List D} {d : D} : okM env i (some (l', d)) = .ret (.val d, env.set i (some (true, .lst l'))) := rfl
def okS (g : List D → List D → Option (List D × D)) (i : Nat) (ds : List D) (env : Ev) : Option Slot → T (Hd × Ev)
  | some (some (true, .lst l)) => okM env i (g l ds)
  | _ => .fail
@[simp] theorem okS_s {g : List D → List D → Option (List D × D)} {i : Nat} {ds l : List D} {env : Ev} : okS g i ds env (some (some (true, .lst l))) = okM env i (g l ds) := rfl
def isO (f : T (Hd × Ev)) : Option Slot → T (Hd × Ev)
  | some (some (true, _)) => f
  | _ => .fail
@[simp] theorem isO_s {f : T (Hd × Ev)} {d : D} : isO f (some (some (true, d))) = f := rfl
@[simp] theorem eMut_e {g : List D → List D → Option (List D × D)} {i : Nat} {ms : MH} {env : Ev} : eMut g i ms env = isO ((ms env).bind fun r => fzK (fun ds env' => okS g i ds env' env'[i]?) (fzs r.2 r.1)) env[i]? := by
  unfold eMut isO
  cases env[i]? with
  | none => rfl
  | some s =>
    cases s with
    | none => rfl
    | some z =>
      obtain ⟨b, d⟩ := z
      cases b with
      | false => rfl
      | true =>
        refine congrArg (T.bind (ms env)) (funext fun r => ?_)
        cases fzs r.2 r.1 with
        | none => rfl
        | some z =>
          obtain ⟨ds, env'⟩ := z
          show _ = okS g i ds env' env'[i]?
          unfold okS
          dsimp only
          cases env'[i]? with
          | none => rfl
          | some s =>
            cases s with
            | none => rfl
            | some z =>
              obtain ⟨b, d⟩ := z
              cases b with
              | false => rfl
              | true =>
                cases d with
                | lst l => dsimp only; cases g l ds <;> rfl
                | _ => rfl
theorem append_e {l : List D} {d : D} (h : l.length < 16777216) : gAppend l [d] = some (l ++ [d], .non) := if_pos h
theorem pop0_e {d : D} {l : List D} (h : l.length < 16777216) : gPop1 (d :: l) [.int 0] = some (l, d) := by
  simp [gPop1, L2.ixN]
  omega
theorem pop_e {l : List D} {k : Nat} (hk : k < l.length) (h : l.length ≤ 16777216) : gPop1 l [.int k] = some (l.eraseIdx k, l[k]) := by
  have e : L2.ixN l.length (k : Int) = some k := by
    unfold L2.ixN
    split
    · rw [if_pos (by omega)]; simp
    · omega
  simp [gPop1, e, hk, h]
@[simp] theorem gEq_nil {l : List D} : gEq (.lst l) (.lst []) = some (.val (.bl l.isEmpty)) := by
  cases l with
  | nil => rfl
  | cons x l => simp [gEq, DEEP, eqDn]
@[simp] theorem gNe_nil {l : List D} : gNe (.lst l) (.lst []) = some (.val (.bl (!l.isEmpty))) := by
  cases l with
  | nil => rfl
  | cons x l => simp [gNe, DEEP, eqDn]
@[simp] theorem gEq_nilt {l : List D} : gEq (.tup l) (.tup []) = some (.val (.bl l.isEmpty)) := by
  cases l with
  | nil => rfl
  | cons x l => simp [gEq, DEEP, eqDn, eqL]
theorem eqL_rows {n : Nat} (h : 0 < n) : ∀ L : List (List Int), eqL (eqDn (n + 1)) (L.map row) (L.map row) = some true
  | [] => rfl
  | x :: L => by
    have : eqDn (n + 1) (row x) (row x) = some true := by
      show eqL (eqDn n) _ _ = _
      rw [eqL_ints h]; simp
    simp [eqL, this, eqL_rows h L]
theorem gNe_rows (L : List (List Int)) : gNe (.lst (L.map row)) (.lst (L.map row)) = some (.val (.bl false)) := by
  have : eqDn DEEP (.lst (L.map row)) (.lst (L.map row)) = some true := by
    show (if _ then eqL (eqDn 39) _ _ else _) = _
    rw [if_pos rfl, eqL_rows (n := 38) (by decide)]
  simp [gNe, this]
def parP (o : Option Ev) : T (Fl × Ev) := match o with
  | some env2 => .ret (.nx, env2)
  | none => .fail
@[simp] theorem parP_s {e : Ev} : parP (some e) = .ret (.nx, e) := rfl
def parK (is : List Nat) : Option (List Hd × Ev) → T (Fl × Ev)
  | some (hs, env1) => parP (puts is hs env1)
  | none => .fail
@[simp] theorem parK_s {is : List Nat} {hs : List Hd} {e : Ev} : parK is (some (hs, e)) = parP (puts is hs e) := rfl
@[simp] theorem sPar_e {is : List Nat} {ms : MH} {env : Ev} : sPar is ms env = (ms env).bind fun r => parK is (unslot r.2 r.1) := by
  unfold sPar parK parP
  refine congrArg _ (funext fun r => ?_)
  cases unslot r.2 r.1 <;> rfl
@[simp] theorem isEmpty_map' {α β : Type} {f : α → β} {l : List α} : (l.map f).isEmpty = l.isEmpty := by cases l <;> rfl
theorem lt_pair {w w' : Int} {a b : List Int} : ∃ c, gLt (.tup [.int w, row a]) (.tup [.int w', row b]) = some (.val (.bl c)) ∧ (c = true → w ≤ w') ∧ (c = false → w' ≤ w) := by
  have e1 : eqDn 39 (row a) (row b) = some (decide (a = b)) := eqL_ints (n := 38) (by decide) a b
  obtain ⟨c, e2⟩ := ltL_ints (n := 38) (by decide) a b
  have e2' : ltDn 39 (row a) (row b) = some c := e2
  have e3 : eqDn 39 (.int w) (.int w') = some (w == w') := rfl
  have e4 : ltDn 39 (.int w) (.int w') = some (decide (w < w')) := rfl
  have e0 : ltDn DEEP (.tup [.int w, row a]) (.tup [.int w', row b]) = ltL (eqDn 39) (ltDn 39) [.int w, row a] [.int w', row b] := rfl
  by_cases hw : w = w'
  · subst hw
    by_cases hab : a = b
    · subst hab
      refine ⟨false, ?_, fun _ => Int.le_refl _, fun _ => Int.le_refl _⟩
      rw [gLt, e0]; simp [ltL, e1, e2', e3]
    · refine ⟨c, ?_, fun _ => Int.le_refl _, fun _ => Int.le_refl _⟩
      rw [gLt, e0]; simp [ltL, e1, e2', e3, hab]
  · refine ⟨decide (w < w'), ?_, fun h => by simp at h; omega, fun h => by simp at h; omega⟩
    have : (w == w') = false := beq_eq_false_iff_ne.mpr hw
    by_cases hab : a = b
    · subst hab; rw [gLt, e0]; simp [ltL, e1, e2', e3, e4, this]
    · rw [gLt, e0]; simp [ltL, e1, e2', e3, e4, this, hab]
theorem land_nat (a b : Nat) : Builtin.bitAnd (a : Int) (b : Int) = ((a &&& b : Nat) : Int) := by
  unfold Builtin.bitAnd
  simp
theorem iShl_1 {j : Nat} (h : j ≤ 1000000) : iShl 1 j = some (.int ((2 ^ j : Nat) : Int)) := by
  unfold iShl
  rw [if_pos (by refine ⟨by omega, by omega, by decide⟩)]
  simp
end Mi
set_option Elab.async false
set_option linter.all false
set_option maxRecDepth 100000
set_option maxHeartbeats 4000000
namespace Mi.K19
open PySem PySem.Spec PyProof.Rows L2 Mi
def topS (i : Nat) : Stmt := PySem.Challenge.pw_drybytheirhour_k19_whole_jobs_of_two_shi.main.body.getD i (.Pass ⟨0, 0, 0, 0⟩)
variable {Pg : Program} {w : World} {K : PySem.W.Frag} {mg : Str → Option Value} {base : Heap}
abbrev st_is_tuple : Stmt := topS 1
theorem sc_is_tuple : FnScope ["value", "least", "most"] ["value", "least", "most"] (defScope st_is_tuple) := ⟨rfl, rfl, rfl, by decide +kernel, rfl, by decide +kernel, by decide +kernel⟩
def b_is_tuple : MS := (sRet (eAnd (eIsi "tuple" (eVar 0)) (eChain (gI iLe) (gI iLe) (eVar 1) (eCall (hCons (eVar 0) hNil) (g1 lenD)) (eVar 2))))
def m_is_tuple : MS := b_is_tuple
def g_is_tuple : List D → T D := mkFn 3 3 m_is_tuple
theorem has_is_tuple {k : Nat} (B : Bl mg)   (Dn : DefIn K mg "is_tuple" st_is_tuple ["value", "least", "most"]) : Has Pg w K mg base (k + 1) "is_tuple" 3 g_is_tuple := by
  obtain ⟨f, fd, Fn, hm, hb⟩ := Dn.ex
  have sc := sc_is_tuple
  exact ⟨f, fd, _, hm, Fn.kp, hb, rfl, fn_okG Fn sc (fun cdv A outer s H Z hr => (ss_one (s_ret (m_and (m_isi B.isinstance B.tuple (by decide +kernel) (m_var 0)) (m_one (m_chain op_leM gI_ns op_leM gI_ns (m_var 1) (m_fn call_lenM (g1_ns lenD_ns) B.len (by decide +kernel) (a_cons (m_var 0) a_nil)) (m_var 2)))))))⟩
abbrev st_is_whole : Stmt := topS 2
theorem sc_is_whole : FnScope ["value"] ["value"] (defScope st_is_whole) := ⟨rfl, rfl, rfl, by decide +kernel, rfl, by decide +kernel, by decide +kernel⟩
def b_is_whole : MS := (sRet (eAnd (eIsi "int" (eVar 0)) (eNotV (eIsi "bool" (eVar 0)))))
def m_is_whole : MS := b_is_whole
def g_is_whole : List D → T D := mkFn 1 1 m_is_whole
theorem has_is_whole {k : Nat} (B : Bl mg)   (Dn : DefIn K mg "is_whole" st_is_whole ["value"]) : Has Pg w K mg base (k + 1) "is_whole" 1 g_is_whole := by
  obtain ⟨f, fd, Fn, hm, hb⟩ := Dn.ex
  have sc := sc_is_whole
  exact ⟨f, fd, _, hm, Fn.kp, hb, rfl, fn_okG Fn sc (fun cdv A outer s H Z hr => (ss_one (s_ret (m_and (m_isi B.isinstance B.int (by decide +kernel) (m_var 0)) (m_one (m_not (m_isi B.isinstance B.bool (by decide +kernel) (m_var 0))))))))⟩
abbrev st_is_integer : Stmt := topS 3
theorem sc_is_integer : FnScope ["value", "low", "high"] ["value", "low", "high"] (defScope st_is_integer) := ⟨rfl, rfl, rfl, by decide +kernel, rfl, by decide +kernel, by decide +kernel⟩
def b_is_integer (g_is_whole : List D → T D) : MS := (sRet (eAnd (eDef g_is_whole (hCons (eVar 0) hNil)) (eChain (gI iLe) (gI iLe) (eVar 1) (eVar 0) (eVar 2))))
def m_is_integer : MS := b_is_integer g_is_whole
def g_is_integer : List D → T D := mkFn 3 3 m_is_integer
theorem has_is_integer {k : Nat} (B : Bl mg)  (h_is_whole : Has Pg w K mg base k "is_whole" 1 g_is_whole) (Dn : DefIn K mg "is_integer" st_is_integer ["value", "low", "high"]) : Has Pg w K mg base (k + 1) "is_integer" 3 g_is_integer := by
  obtain ⟨f, fd, Fn, hm, hb⟩ := Dn.ex
  have sc := sc_is_integer
  exact ⟨f, fd, _, hm, Fn.kp, hb, rfl, fn_okG Fn sc (fun cdv A outer s H Z hr => (ss_one (s_ret (m_and (m_call h_is_whole hr (hCons_len hNil_len) (a_cons (m_var 0) a_nil)) (m_one (m_chain op_leM gI_ns op_leM gI_ns (m_var 1) (m_var 0) (m_var 2)))))))⟩
abbrev st_is_job : Stmt := topS 14
theorem sc_is_job : FnScope ["machines", "value", "one"] ["machines", "value"] (defScope st_is_job) := ⟨rfl, rfl, rfl, by decide +kernel, rfl, by decide +kernel, by decide +kernel⟩
def b_is_job (g_is_integer g_is_tuple : List D → T D) : MS := (sRet (eAnd (eDef g_is_tuple (hCons (eVar 1) (hCons (eVar 0) (hCons (eVar 0) hNil)))) (eCall (hCons (eComp [2] (iSeq (eVar 1)) (gNm 2) mYes (eDef g_is_integer (hCons (eVar 2) (hCons (eC (.int 0)) (hCons (eC (.int 1000)) hNil))))) hNil) (g1 allD))))
def m_is_job : MS := b_is_job g_is_integer g_is_tuple
def g_is_job : List D → T D := mkFn 3 2 m_is_job
theorem has_is_job {k : Nat} (B : Bl mg) (c_MOST_TIME : CAt mg "MOST_TIME" (.int 1000)) (h_is_integer : Has Pg w K mg base k "is_integer" 3 g_is_integer) (h_is_tuple : Has Pg w K mg base k "is_tuple" 3 g_is_tuple) (Dn : DefIn K mg "is_job" st_is_job ["machines", "value"]) : Has Pg w K mg base (k + 1) "is_job" 2 g_is_job := by
  obtain ⟨f, fd, Fn, hm, hb⟩ := Dn.ex
  have sc := sc_is_job
  exact ⟨f, fd, _, hm, Fn.kp, hb, rfl, fn_okG Fn sc (fun cdv A outer s H Z hr => (ss_one (s_ret (m_and (m_call h_is_tuple hr (hCons_len (hCons_len (hCons_len hNil_len))) (a_cons (m_var 1) (a_cons (m_var 0) (a_cons (m_var 0) a_nil)))) (m_one (m_fn (call_allM rfl) (g1_ns allD_ns) B.all (by decide +kernel) (a_cons (m_comp [("one", 2)] sc.nd (pi_seqM rfl (m_var 1)) (blkOk_by (by kernel_rfl)) (fun _ _ _ _ _ => (g_name 2 sc.nd)) (fun _ _ _ _ _ => ts_nil) (fun _ _ _ _ _ => (m_call h_is_integer hr (hCons_len (hCons_len (hCons_len hNil_len))) (a_cons (m_var 2) (a_cons m_int (a_cons (m_glob c_MOST_TIME) a_nil)))))) a_nil)))))))⟩
abbrev st_check_jobs : Stmt := topS 15
theorem sc_check_jobs : FnScope ["value", "most", "machines", "job"] ["value", "most", "machines"] (defScope st_check_jobs) := ⟨rfl, rfl, rfl, by decide +kernel, rfl, by decide +kernel, by decide +kernel⟩
def b_check_jobs (g_is_job g_is_tuple : List D → T D) : MS := (sIf (mOr (mNot (mTest (eDef g_is_tuple (hCons (eVar 0) (hCons (eC (.int 1)) (hCons (eVar 1) hNil)))))) (mNot (mTest (eCall (hCons (eComp [3] (iSeq (eVar 0)) (gNm 3) mYes (eDef g_is_job (hCons (eVar 2) (hCons (eVar 3) hNil)))) hNil) (g1 allD))))) sNever sNext)
def m_check_jobs : MS := b_check_jobs g_is_job g_is_tuple
def g_check_jobs : List D → T D := mkFn 4 3 m_check_jobs
theorem has_check_jobs {k : Nat} (B : Bl mg)  (h_is_job : Has Pg w K mg base k "is_job" 2 g_is_job) (h_is_tuple : Has Pg w K mg base k "is_tuple" 3 g_is_tuple) (Dn : DefIn K mg "check_jobs" st_check_jobs ["value", "most", "machines"]) : Has Pg w K mg base (k + 1) "check_jobs" 3 g_check_jobs := by
  obtain ⟨f, fd, Fn, hm, hb⟩ := Dn.ex
  have sc := sc_check_jobs
  exact ⟨f, fd, _, hm, Fn.kp, hb, rfl, fn_okG Fn sc (fun cdv A outer s H Z hr => (ss_one (s_if (PW.pt (w_or (t_not (t_val (m_call h_is_tuple hr (hCons_len (hCons_len (hCons_len hNil_len))) (a_cons (m_var 0) (a_cons m_int (a_cons (m_var 1) a_nil)))))) (w_one' (t_not (t_val (m_fn (call_allM rfl) (g1_ns allD_ns) B.all (by decide +kernel) (a_cons (m_comp [("job", 3)] sc.nd (pi_seqM rfl (m_var 0)) (blkOk_by (by kernel_rfl)) (fun _ _ _ _ _ => (g_name 3 sc.nd)) (fun _ _ _ _ _ => ts_nil) (fun _ _ _ _ _ => (m_call h_is_job hr (hCons_len (hCons_len hNil_len)) (a_cons (m_var 2) (a_cons (m_var 3) a_nil))))) a_nil))))))) (ss_one s_never) ss_nil)))⟩
abbrev st_is_order : Stmt := topS 16
theorem sc_is_order : FnScope ["many", "value", "one"] ["many", "value"] (defScope st_is_order) := ⟨rfl, rfl, rfl, by decide +kernel, rfl, by decide +kernel, by decide +kernel⟩
def b_is_order (g_is_integer g_is_tuple : List D → T D) : MS := (sSeq (sIf (mOr (mNot (mTest (eDef g_is_tuple (hCons (eVar 1) (hCons (eVar 0) (hCons (eVar 0) hNil)))))) (mNot (mTest (eCall (hCons (eComp [2] (iSeq (eVar 1)) (gNm 2) mYes (eDef g_is_integer (hCons (eVar 2) (hCons (eC (.int 0)) (hCons (eOp (gI iSub) (eVar 0) (eC (.int 1))) hNil))))) hNil) (g1 allD))))) (sRet (eC (.bl false))) sNext)
  (sRet (eOp gEq (eUn lenSetD (eVar 1)) (eVar 0))))
def m_is_order : MS := b_is_order g_is_integer g_is_tuple
def g_is_order : List D → T D := mkFn 3 2 m_is_order
theorem has_is_order {k : Nat} (B : Bl mg)  (h_is_integer : Has Pg w K mg base k "is_integer" 3 g_is_integer) (h_is_tuple : Has Pg w K mg base k "is_tuple" 3 g_is_tuple) (Dn : DefIn K mg "is_order" st_is_order ["many", "value"]) : Has Pg w K mg base (k + 1) "is_order" 2 g_is_order := by
  obtain ⟨f, fd, Fn, hm, hb⟩ := Dn.ex
  have sc := sc_is_order
  exact ⟨f, fd, _, hm, Fn.kp, hb, rfl, fn_okG Fn sc (fun cdv A outer s H Z hr => (ss_cons (s_if (PW.pt (w_or (t_not (t_val (m_call h_is_tuple hr (hCons_len (hCons_len (hCons_len hNil_len))) (a_cons (m_var 1) (a_cons (m_var 0) (a_cons (m_var 0) a_nil)))))) (w_one' (t_not (t_val (m_fn (call_allM rfl) (g1_ns allD_ns) B.all (by decide +kernel) (a_cons (m_comp [("one", 2)] sc.nd (pi_seqM rfl (m_var 1)) (blkOk_by (by kernel_rfl)) (fun _ _ _ _ _ => (g_name 2 sc.nd)) (fun _ _ _ _ _ => ts_nil) (fun _ _ _ _ _ => (m_call h_is_integer hr (hCons_len (hCons_len (hCons_len hNil_len))) (a_cons (m_var 2) (a_cons m_int (a_cons (m_op op_subM gI_ns (m_var 0) m_int) a_nil)))))) a_nil))))))) (ss_one (s_ret m_bl)) ss_nil)
  (ss_one (s_ret (m_cmp (r_eq hr) gEq_ns (pe_lenSetM B.len B.set (m_var 1)) (m_var 0) (nomark _))))))⟩
abbrev st_check_order : Stmt := topS 17
theorem sc_check_order : FnScope ["many", "value"] ["many", "value"] (defScope st_check_order) := ⟨rfl, rfl, rfl, by decide +kernel, rfl, by decide +kernel, by decide +kernel⟩
def b_check_order (g_is_order : List D → T D) : MS := (sIf (mNot (mTest (eDef g_is_order (hCons (eVar 0) (hCons (eVar 1) hNil))))) sNever sNext)
def m_check_order : MS := b_check_order g_is_order
def g_check_order : List D → T D := mkFn 2 2 m_check_order
theorem has_check_order {k : Nat} (B : Bl mg)  (h_is_order : Has Pg w K mg base k "is_order" 2 g_is_order) (Dn : DefIn K mg "check_order" st_check_order ["many", "value"]) : Has Pg w K mg base (k + 1) "check_order" 2 g_check_order := by
  obtain ⟨f, fd, Fn, hm, hb⟩ := Dn.ex
  have sc := sc_check_order
  exact ⟨f, fd, _, hm, Fn.kp, hb, rfl, fn_okG Fn sc (fun cdv A outer s H Z hr => (ss_one (s_if (t_not (t_val (m_call h_is_order hr (hCons_len (hCons_len hNil_len)) (a_cons (m_var 0) (a_cons (m_var 1) a_nil))))) (ss_one s_never) ss_nil)))⟩
abbrev st_ends_of : Stmt := topS 18
theorem sc_ends_of : FnScope ["jobs", "order", "here", "found", "at", "ready", "machine", "time"] ["jobs", "order"] (defScope st_ends_of) := ⟨rfl, rfl, rfl, by decide +kernel, rfl, by decide +kernel, by decide +kernel⟩
def f_ends_of_1 : MS := (sSeq (sSet 5 (eOp gAdd (eCall (hCons (eVar 5) (hCons (eOp gIx (eVar 2) (eVar 6)) hNil)) (gI2 max)) (eVar 7)))
  (sStore 2 (eVar 6) (eVar 5)))
def f_ends_of_2 : MS := (sSeq (sSet 5 (eC (.int 0)))
  (sSeq (sFor (iEnumM (hCons (eOp gIx (eVar 0) (eVar 4)) hNil)) (gTp 2 (gsCons (gNm 6) (gsCons (gNm 7) gsNil))) (f_ends_of_1))
  (sDrop (eMut gAppend 3 (hCons (eCall (hCons (eVar 2) hNil) (g1 tupleD)) hNil)))))
def b_ends_of : MS := (sSeq (sPar [2, 3] (hCons (eOp gMul (eLst (hCons (eC (.int 0)) hNil)) (eCall (hCons (eOp gIx (eVar 0) (eC (.int 0))) hNil) (g1 lenD))) (hCons (eLst hNil) hNil)))
  (sSeq (sFor (iSeq (eVar 1)) (gNm 4) (f_ends_of_2))
  (sRet (eCall (hCons (eVar 3) hNil) (g1 tupleD)))))
def m_ends_of : MS := b_ends_of
def g_ends_of : List D → T D := mkFn 8 2 m_ends_of
theorem has_ends_of {k : Nat} (B : Bl mg)   (Dn : DefIn K mg "ends_of" st_ends_of ["jobs", "order"]) : Has Pg w K mg base (k + 1) "ends_of" 2 g_ends_of := by
  obtain ⟨f, fd, Fn, hm, hb⟩ := Dn.ex
  have sc := sc_ends_of
  exact ⟨f, fd, _, hm, Fn.kp, hb, rfl, fn_okG Fn sc (fun cdv A outer s H Z hr => (ss_cons (s_par2 sc.nd (a_cons (m_op op_mulM gMul_ns (m_lst (a_cons m_int a_nil) (hCons_len hNil_len)) (m_fn call_lenM (g1_ns lenD_ns) B.len (by decide +kernel) (a_cons (m_ix (m_var 0) m_int) a_nil))) (a_cons (m_lst a_nil hNil_len) a_nil)) (hCons_len (hCons_len hNil_len)))
  (ss_cons (s_for (g_name 4 sc.nd) (pi_seqM rfl (m_var 1)) (ss_cons (s_set sc.nd m_int)
  (ss_cons (s_for (g_tup (gs_cons (g_name 6 sc.nd) (gs_cons (g_name 7 sc.nd) gs_nil))) (pi_enumM rfl (by rfl) B.enumerate (a_cons (m_ix (m_var 0) (m_var 4)) a_nil)) (ss_cons (s_set sc.nd (m_op op_addM gAdd_ns (m_fn (call_max2M rfl) gI2_ns B.max (by decide +kernel) (a_cons (m_var 5) (a_cons (m_ix (m_var 2) (m_var 6)) a_nil))) (m_var 7)))
  (ss_one (s_store (pv 2) (m_var 6) (m_var 5)))))
  (ss_one (s_expr (m_mut op_append mt_append PySem.F.slot_list_append PySem.F.type_list_append (pv 3) (a_cons (m_ty call_tupleM (g1_ns tupleD_ns) B.tuple (by decide +kernel) (a_cons (m_var 2) a_nil)) a_nil)))))))
  (ss_one (s_ret (m_ty call_tupleM (g1_ns tupleD_ns) B.tuple (by decide +kernel) (a_cons (m_var 3) a_nil)))))))⟩
abbrev st_ends : Stmt := topS 19
theorem sc_ends : FnScope ["jobs", "order"] ["jobs", "order"] (defScope st_ends) := ⟨rfl, rfl, rfl, by decide +kernel, rfl, by decide +kernel, by decide +kernel⟩
def b_ends (g_check_jobs g_check_order g_ends_of : List D → T D) : MS := (sSeq (sDrop (eDef g_check_jobs (hCons (eVar 0) (hCons (eC (.int 20)) (hCons (eC (.int 2)) hNil)))))
  (sSeq (sDrop (eDef g_check_order (hCons (eCall (hCons (eVar 0) hNil) (g1 lenD)) (hCons (eVar 1) hNil))))
  (sRet (eDef g_ends_of (hCons (eVar 0) (hCons (eVar 1) hNil))))))
def m_ends : MS := b_ends g_check_jobs g_check_order g_ends_of
def g_ends : List D → T D := mkFn 2 2 m_ends
theorem has_ends {k : Nat} (B : Bl mg) (c_MOST_JOBS : CAt mg "MOST_JOBS" (.int 20)) (c_PAIR : CAt mg "PAIR" (.int 2)) (h_check_jobs : Has Pg w K mg base k "check_jobs" 3 g_check_jobs) (h_check_order : Has Pg w K mg base k "check_order" 2 g_check_order) (h_ends_of : Has Pg w K mg base k "ends_of" 2 g_ends_of) (Dn : DefIn K mg "ends" st_ends ["jobs", "order"]) : Has Pg w K mg base (k + 1) "ends" 2 g_ends := by
  obtain ⟨f, fd, Fn, hm, hb⟩ := Dn.ex
  have sc := sc_ends
  exact ⟨f, fd, _, hm, Fn.kp, hb, rfl, fn_okG Fn sc (fun cdv A outer s H Z hr => (ss_cons (s_expr (m_call h_check_jobs hr (hCons_len (hCons_len (hCons_len hNil_len))) (a_cons (m_var 0) (a_cons (m_glob c_MOST_JOBS) (a_cons (m_glob c_PAIR) a_nil)))))
  (ss_cons (s_expr (m_call h_check_order hr (hCons_len (hCons_len hNil_len)) (a_cons (m_fn call_lenM (g1_ns lenD_ns) B.len (by decide +kernel) (a_cons (m_var 0) a_nil)) (a_cons (m_var 1) a_nil))))
  (ss_one (s_ret (m_call h_ends_of hr (hCons_len (hCons_len hNil_len)) (a_cons (m_var 0) (a_cons (m_var 1) a_nil))))))))⟩
abbrev st_waits : Stmt := topS 20
theorem sc_waits : FnScope ["jobs", "order", "told", "wash", "wring"] ["jobs", "order"] (defScope st_waits) := ⟨rfl, rfl, rfl, by decide +kernel, rfl, by decide +kernel, by decide +kernel⟩
def b_waits (g_ends : List D → T D) : MS := (sSeq (sSet 2 (eDef g_ends (hCons (eVar 0) (hCons (eVar 1) hNil))))
  (sRet (eOp (gI iSub) (eOp gIx (eOp gIx (eVar 2) (eUn gNeg (eC (.int 1)))) (eC (.int 1))) (eCall (hCons (eComp [3, 4] (iSeq (eVar 0)) (gTp 2 (gsCons (gNm 3) (gsCons (gNm 4) gsNil))) mYes (eVar 4)) hNil) (g1 sumD)))))
def m_waits : MS := b_waits g_ends
def g_waits : List D → T D := mkFn 5 2 m_waits
theorem has_waits {k : Nat} (B : Bl mg)  (h_ends : Has Pg w K mg base k "ends" 2 g_ends) (Dn : DefIn K mg "waits" st_waits ["jobs", "order"]) : Has Pg w K mg base (k + 1) "waits" 2 g_waits := by
  obtain ⟨f, fd, Fn, hm, hb⟩ := Dn.ex
  have sc := sc_waits
  exact ⟨f, fd, _, hm, Fn.kp, hb, rfl, fn_okG Fn sc (fun cdv A outer s H Z hr => (ss_cons (s_set sc.nd (m_call h_ends hr (hCons_len (hCons_len hNil_len)) (a_cons (m_var 0) (a_cons (m_var 1) a_nil))))
  (ss_one (s_ret (m_op op_subM gI_ns (m_ix (m_ix (m_var 2) (m_un un_negM gNeg_ns m_int)) m_int) (m_fn (call_sumM rfl) (g1_ns sumD_ns) B.sum (by decide +kernel) (a_cons (m_comp [("wash", 3), ("wring", 4)] sc.nd (pi_seqM rfl (m_var 0)) (blkOk_by (by kernel_rfl)) (fun _ _ _ _ _ => (g_tup (gs_cons (g_name 3 sc.nd) (gs_cons (g_name 4 sc.nd) gs_nil)))) (fun _ _ _ _ _ => ts_nil) (fun _ _ _ _ _ => (m_var 4))) a_nil)))))))⟩
abbrev st_johnson : Stmt := topS 21
theorem sc_johnson : FnScope ["jobs", "first", "last", "at", "wash", "wring", "time"] ["jobs"] (defScope st_johnson) := ⟨rfl, rfl, rfl, by decide +kernel, rfl, by decide +kernel, by decide +kernel⟩
def b_johnson : MS := (sSeq (sSet 1 (eCall (hCons (eComp [3, 4, 5] (iEnumM (hCons (eVar 0) hNil)) (gTp 2 (gsCons (gNm 3) (gsCons (gTp 2 (gsCons (gNm 4) (gsCons (gNm 5) gsNil))) gsNil))) (mTest (eOp (gI iLe) (eVar 4) (eVar 5))) (eTup (hCons (eVar 4) (hCons (eVar 3) hNil)))) hNil) (g1 sortedD)))
  (sSeq (sSet 2 (eCall (hCons (eComp [3, 4, 5] (iEnumM (hCons (eVar 0) hNil)) (gTp 2 (gsCons (gNm 3) (gsCons (gTp 2 (gsCons (gNm 4) (gsCons (gNm 5) gsNil))) gsNil))) (mTest (eOp (gI iGt) (eVar 4) (eVar 5))) (eTup (hCons (eUn gNeg (eVar 5)) (hCons (eVar 3) hNil)))) hNil) (g1 sortedD)))
  (sRet (eCall (hCons (eComp [6, 3] (iSeq (eLst (hFew (hStar (eVar 1) (hStar (eVar 2) hNil))))) (gTp 2 (gsCons (gNm 6) (gsCons (gNm 3) gsNil))) mYes (eVar 3)) hNil) (g1 tupleD)))))
def m_johnson : MS := b_johnson
def g_johnson : List D → T D := mkFn 7 1 m_johnson
theorem has_johnson {k : Nat} (B : Bl mg)   (Dn : DefIn K mg "johnson" st_johnson ["jobs"]) : Has Pg w K mg base (k + 1) "johnson" 1 g_johnson := by
  obtain ⟨f, fd, Fn, hm, hb⟩ := Dn.ex
  have sc := sc_johnson
  exact ⟨f, fd, _, hm, Fn.kp, hb, rfl, fn_okG Fn sc (fun cdv A outer s H Z hr => (ss_cons (s_set sc.nd (m_fn (r_sorted hr) (g1_ns sortedD_ns) B.sorted (by decide +kernel) (a_cons (m_comp [("at", 3), ("wash", 4), ("wring", 5)] sc.nd (pi_enumM rfl (by rfl) B.enumerate (a_cons (m_var 0) a_nil)) (blkOk_by (by kernel_rfl)) (fun _ _ _ _ _ => (g_tup (gs_cons (g_name 3 sc.nd) (gs_cons (g_tup (gs_cons (g_name 4 sc.nd) (gs_cons (g_name 5 sc.nd) gs_nil))) gs_nil)))) (fun _ _ _ _ _ => (ts_one (t_cmp op_leM gI_ns (m_var 4) (m_var 5) (nomark _)))) (fun _ _ _ _ _ => (m_tup (a_cons (m_var 4) (a_cons (m_var 3) a_nil)) (hCons_len (hCons_len hNil_len))))) a_nil)))
  (ss_cons (s_set sc.nd (m_fn (r_sorted hr) (g1_ns sortedD_ns) B.sorted (by decide +kernel) (a_cons (m_comp [("at", 3), ("wash", 4), ("wring", 5)] sc.nd (pi_enumM rfl (by rfl) B.enumerate (a_cons (m_var 0) a_nil)) (blkOk_by (by kernel_rfl)) (fun _ _ _ _ _ => (g_tup (gs_cons (g_name 3 sc.nd) (gs_cons (g_tup (gs_cons (g_name 4 sc.nd) (gs_cons (g_name 5 sc.nd) gs_nil))) gs_nil)))) (fun _ _ _ _ _ => (ts_one (t_cmp op_gtM gI_ns (m_var 4) (m_var 5) (nomark _)))) (fun _ _ _ _ _ => (m_tup (a_cons (m_un un_negM gNeg_ns (m_var 5)) (a_cons (m_var 3) a_nil)) (hCons_len (hCons_len hNil_len))))) a_nil)))
  (ss_one (s_ret (m_ty call_tupleM (g1_ns tupleD_ns) B.tuple (by decide +kernel) (a_cons (m_comp [("time", 6), ("at", 3)] sc.nd (pi_seqM rfl (m_lstS (a_star (m_var 1) (a_star (m_var 2) a_nil)))) (blkOk_by (by kernel_rfl)) (fun _ _ _ _ _ => (g_tup (gs_cons (g_name 6 sc.nd) (gs_cons (g_name 3 sc.nd) gs_nil)))) (fun _ _ _ _ _ => ts_nil) (fun _ _ _ _ _ => (m_var 3))) a_nil)))))))⟩
abbrev st_soonest : Stmt := topS 22
theorem sc_soonest : FnScope ["jobs", "order"] ["jobs"] (defScope st_soonest) := ⟨rfl, rfl, rfl, by decide +kernel, rfl, by decide +kernel, by decide +kernel⟩
def b_soonest (g_check_jobs g_ends_of g_johnson : List D → T D) : MS := (sSeq (sDrop (eDef g_check_jobs (hCons (eVar 0) (hCons (eC (.int 20)) (hCons (eC (.int 2)) hNil)))))
  (sSeq (sSet 1 (eDef g_johnson (hCons (eVar 0) hNil)))
  (sRet (eTup (hCons (eOp gIx (eOp gIx (eDef g_ends_of (hCons (eVar 0) (hCons (eVar 1) hNil))) (eUn gNeg (eC (.int 1)))) (eC (.int 1))) (hCons (eVar 1) hNil))))))
def m_soonest : MS := b_soonest g_check_jobs g_ends_of g_johnson
def g_soonest : List D → T D := mkFn 2 1 m_soonest
theorem has_soonest {k : Nat} (B : Bl mg) (c_MOST_JOBS : CAt mg "MOST_JOBS" (.int 20)) (c_PAIR : CAt mg "PAIR" (.int 2)) (h_check_jobs : Has Pg w K mg base k "check_jobs" 3 g_check_jobs) (h_ends_of : Has Pg w K mg base k "ends_of" 2 g_ends_of) (h_johnson : Has Pg w K mg base k "johnson" 1 g_johnson) (Dn : DefIn K mg "soonest" st_soonest ["jobs"]) : Has Pg w K mg base (k + 1) "soonest" 1 g_soonest := by
  obtain ⟨f, fd, Fn, hm, hb⟩ := Dn.ex
  have sc := sc_soonest
  exact ⟨f, fd, _, hm, Fn.kp, hb, rfl, fn_okG Fn sc (fun cdv A outer s H Z hr => (ss_cons (s_expr (m_call h_check_jobs hr (hCons_len (hCons_len (hCons_len hNil_len))) (a_cons (m_var 0) (a_cons (m_glob c_MOST_JOBS) (a_cons (m_glob c_PAIR) a_nil)))))
  (ss_cons (s_set sc.nd (m_call h_johnson hr (hCons_len hNil_len) (a_cons (m_var 0) a_nil)))
  (ss_one (s_ret (m_tup (a_cons (m_ix (m_ix (m_call h_ends_of hr (hCons_len (hCons_len hNil_len)) (a_cons (m_var 0) (a_cons (m_var 1) a_nil))) (m_un un_negM gNeg_ns m_int)) m_int) (a_cons (m_var 1) a_nil)) (hCons_len (hCons_len hNil_len))))))))⟩
abbrev st_shows_soonest : Stmt := topS 23
theorem sc_shows_soonest : FnScope ["jobs", "value", "time"] ["jobs", "value"] (defScope st_shows_soonest) := ⟨rfl, rfl, rfl, by decide +kernel, rfl, by decide +kernel, by decide +kernel⟩
def b_shows_soonest (g_ends_of g_is_integer g_is_order g_is_tuple g_soonest : List D → T D) : MS := (sSeq (sSet 2 (eOp gIx (eDef g_soonest (hCons (eVar 0) hNil)) (eC (.int 0))))
  (sSeq (sIf (mOr (mNot (mTest (eDef g_is_tuple (hCons (eVar 1) (hCons (eC (.int 2)) (hCons (eC (.int 2)) hNil)))))) (mOr (mNot (mTest (eDef g_is_order (hCons (eCall (hCons (eVar 0) hNil) (g1 lenD)) (hCons (eOp gIx (eVar 1) (eC (.int 1))) hNil))))) (mNot (mTest (eDef g_is_integer (hCons (eOp gIx (eVar 1) (eC (.int 0))) (hCons (eVar 2) (hCons (eVar 2) hNil)))))))) (sRet (eC (.bl false))) sNext)
  (sRet (eOp gEq (eOp gIx (eOp gIx (eDef g_ends_of (hCons (eVar 0) (hCons (eOp gIx (eVar 1) (eC (.int 1))) hNil))) (eUn gNeg (eC (.int 1)))) (eC (.int 1))) (eVar 2)))))
def m_shows_soonest : MS := b_shows_soonest g_ends_of g_is_integer g_is_order g_is_tuple g_soonest
def g_shows_soonest : List D → T D := mkFn 3 2 m_shows_soonest
theorem has_shows_soonest {k : Nat} (B : Bl mg) (c_PAIR : CAt mg "PAIR" (.int 2)) (h_ends_of : Has Pg w K mg base k "ends_of" 2 g_ends_of) (h_is_integer : Has Pg w K mg base k "is_integer" 3 g_is_integer) (h_is_order : Has Pg w K mg base k "is_order" 2 g_is_order) (h_is_tuple : Has Pg w K mg base k "is_tuple" 3 g_is_tuple) (h_soonest : Has Pg w K mg base k "soonest" 1 g_soonest) (Dn : DefIn K mg "shows_soonest" st_shows_soonest ["jobs", "value"]) : Has Pg w K mg base (k + 1) "shows_soonest" 2 g_shows_soonest := by
  obtain ⟨f, fd, Fn, hm, hb⟩ := Dn.ex
  have sc := sc_shows_soonest
  exact ⟨f, fd, _, hm, Fn.kp, hb, rfl, fn_okG Fn sc (fun cdv A outer s H Z hr => (ss_cons (s_set sc.nd (m_ix (m_call h_soonest hr (hCons_len hNil_len) (a_cons (m_var 0) a_nil)) m_int))
  (ss_cons (s_if (PW.pt (w_or (t_not (t_val (m_call h_is_tuple hr (hCons_len (hCons_len (hCons_len hNil_len))) (a_cons (m_var 1) (a_cons (m_glob c_PAIR) (a_cons (m_glob c_PAIR) a_nil)))))) (w_or (t_not (t_val (m_call h_is_order hr (hCons_len (hCons_len hNil_len)) (a_cons (m_fn call_lenM (g1_ns lenD_ns) B.len (by decide +kernel) (a_cons (m_var 0) a_nil)) (a_cons (m_ix (m_var 1) m_int) a_nil))))) (w_one' (t_not (t_val (m_call h_is_integer hr (hCons_len (hCons_len (hCons_len hNil_len))) (a_cons (m_ix (m_var 1) m_int) (a_cons (m_var 2) (a_cons (m_var 2) a_nil)))))))))) (ss_one (s_ret m_bl)) ss_nil)
  (ss_one (s_ret (m_cmp (r_eq hr) gEq_ns (m_ix (m_ix (m_call h_ends_of hr (hCons_len (hCons_len hNil_len)) (a_cons (m_var 0) (a_cons (m_ix (m_var 1) m_int) a_nil))) (m_un un_negM gNeg_ns m_int)) m_int) (m_var 2) (nomark _)))))))⟩
abbrev st_all_orders : Stmt := topS 24
theorem sc_all_orders : FnScope ["many", "found", "lap", "longer", "row", "one"] ["many"] (defScope st_all_orders) := ⟨rfl, rfl, rfl, by decide +kernel, rfl, by decide +kernel, by decide +kernel⟩
def f_all_orders_1 : MS := (sDrop (eMut gExtend 3 (hCons (eComp [5] (iRng (hCons (eVar 0) hNil)) (gNm 5) (mTest (eOp gNi (eVar 5) (eVar 4))) (eTup (hFew (hStar (eVar 4) (hCons (eVar 5) hNil))))) hNil)))
def f_all_orders_2 : MS := (sSeq (sSet 3 (eLst hNil))
  (sSeq (sFor (iSeq (eVar 1)) (gNm 4) (f_all_orders_1))
  (sSet 1 (eVar 3))))
def b_all_orders : MS := (sSeq (sSet 1 (eLst (hCons (eTup hNil) hNil)))
  (sSeq (sFor (iRng (hCons (eVar 0) hNil)) (gNm 2) (f_all_orders_2))
  (sRet (eVar 1))))
def m_all_orders : MS := b_all_orders
def g_all_orders : List D → T D := mkFn 6 1 m_all_orders
theorem has_all_orders {k : Nat} (B : Bl mg)   (Dn : DefIn K mg "all_orders" st_all_orders ["many"]) : Has Pg w K mg base (k + 1) "all_orders" 1 g_all_orders := by
  obtain ⟨f, fd, Fn, hm, hb⟩ := Dn.ex
  have sc := sc_all_orders
  exact ⟨f, fd, _, hm, Fn.kp, hb, rfl, fn_okG Fn sc (fun cdv A outer s H Z hr => (ss_cons (s_set sc.nd (m_lst (a_cons (m_tup a_nil hNil_len) a_nil) (hCons_len hNil_len)))
  (ss_cons (s_for (g_name 2 sc.nd) (pi_rng1M rfl (by rfl) B.range (a_cons (m_var 0) a_nil) (hCons_len hNil_len)) (ss_cons (s_set sc.nd (m_lst a_nil hNil_len))
  (ss_cons (s_for (g_name 4 sc.nd) (pi_seqM rfl (m_var 1)) (ss_one (s_expr (m_mut op_extend mt_extend PySem.F.slot_list_extend PySem.F.type_list_extend (pv 3) (a_cons (m_comp [("one", 5)] sc.nd (pi_rng1M rfl (by rfl) B.range (a_cons (m_var 0) a_nil) (hCons_len hNil_len)) (blkOk_by (by kernel_rfl)) (fun _ _ _ _ _ => (g_name 5 sc.nd)) (fun _ _ _ _ _ => (ts_one (t_cmp (r_ni hr) gNi_ns (m_var 5) (m_var 4) (by with_unfolding_all rfl)))) (fun _ _ _ _ _ => (m_tupS (a_star (m_var 4) (a_cons (m_var 5) a_nil))))) a_nil)))))
  (ss_one (s_set sc.nd (m_var 3))))))
  (ss_one (s_ret (m_var 1))))))⟩
abbrev st_soonest_three : Stmt := topS 25
theorem sc_soonest_three : FnScope ["jobs", "order"] ["jobs"] (defScope st_soonest_three) := ⟨rfl, rfl, rfl, by decide +kernel, rfl, by decide +kernel, by decide +kernel⟩
def b_soonest_three (g_all_orders g_check_jobs g_ends_of : List D → T D) : MS := (sSeq (sDrop (eDef g_check_jobs (hCons (eVar 0) (hCons (eC (.int 6)) (hCons (eC (.int 3)) hNil)))))
  (sRet (eCall (hCons (eComp [1] (iSeq (eDef g_all_orders (hCons (eCall (hCons (eVar 0) hNil) (g1 lenD)) hNil))) (gNm 1) mYes (eTup (hCons (eOp gIx (eOp gIx (eDef g_ends_of (hCons (eVar 0) (hCons (eVar 1) hNil))) (eUn gNeg (eC (.int 1)))) (eC (.int 2))) (hCons (eVar 1) hNil)))) hNil) (g1 minD))))
def m_soonest_three : MS := b_soonest_three g_all_orders g_check_jobs g_ends_of
def g_soonest_three : List D → T D := mkFn 2 1 m_soonest_three
theorem has_soonest_three {k : Nat} (B : Bl mg) (c_MOST_TRIED : CAt mg "MOST_TRIED" (.int 6)) (c_PAIR : CAt mg "PAIR" (.int 2)) (c_TRIPLE : CAt mg "TRIPLE" (.int 3)) (h_all_orders : Has Pg w K mg base k "all_orders" 1 g_all_orders) (h_check_jobs : Has Pg w K mg base k "check_jobs" 3 g_check_jobs) (h_ends_of : Has Pg w K mg base k "ends_of" 2 g_ends_of) (Dn : DefIn K mg "soonest_three" st_soonest_three ["jobs"]) : Has Pg w K mg base (k + 1) "soonest_three" 1 g_soonest_three := by
  obtain ⟨f, fd, Fn, hm, hb⟩ := Dn.ex
  have sc := sc_soonest_three
  exact ⟨f, fd, _, hm, Fn.kp, hb, rfl, fn_okG Fn sc (fun cdv A outer s H Z hr => (ss_cons (s_expr (m_call h_check_jobs hr (hCons_len (hCons_len (hCons_len hNil_len))) (a_cons (m_var 0) (a_cons (m_glob c_MOST_TRIED) (a_cons (m_glob c_TRIPLE) a_nil)))))
  (ss_one (s_ret (m_fn (r_min hr rfl) (g1_ns minD_ns) B.min (by decide +kernel) (a_cons (m_comp [("order", 1)] sc.nd (pi_seqM rfl (m_call h_all_orders hr (hCons_len hNil_len) (a_cons (m_fn call_lenM (g1_ns lenD_ns) B.len (by decide +kernel) (a_cons (m_var 0) a_nil)) a_nil))) (blkOk_by (by kernel_rfl)) (fun _ _ _ _ _ => (g_name 1 sc.nd)) (fun _ _ _ _ _ => ts_nil) (fun _ _ _ _ _ => (m_tup (a_cons (m_ix (m_ix (m_call h_ends_of hr (hCons_len (hCons_len hNil_len)) (a_cons (m_var 0) (a_cons (m_var 1) a_nil))) (m_un un_negM gNeg_ns m_int)) (m_glob c_PAIR)) (a_cons (m_var 1) a_nil)) (hCons_len (hCons_len hNil_len))))) a_nil))))))⟩
abbrev st_middle_rule : Stmt := topS 26
theorem sc_middle_rule : FnScope ["jobs", "order", "middle", "is_sure", "wash", "wring", "iron"] ["jobs"] (defScope st_middle_rule) := ⟨rfl, rfl, rfl, by decide +kernel, rfl, by decide +kernel, by decide +kernel⟩
def r_middle_rule_4 (g_check_jobs g_ends_of g_johnson : List D → T D) : MS := (sRet (eTup (hCons (eOp gIx (eOp gIx (eDef g_ends_of (hCons (eVar 0) (hCons (eVar 1) hNil))) (eUn gNeg (eC (.int 1)))) (eC (.int 2))) (hCons (eVar 1) (hCons (eVar 3) hNil)))))
def r_middle_rule_3 (g_check_jobs g_ends_of g_johnson : List D → T D) : MS := (sSeq (sSet 3 (eOr (eOp (gI iGe) (eCall (hCons (eComp [4, 5, 6] (iSeq (eVar 0)) (gTp 3 (gsCons (gNm 4) (gsCons (gNm 5) (gsCons (gNm 6) gsNil)))) mYes (eVar 4)) hNil) (g1 minD)) (eVar 2)) (eOp (gI iGe) (eCall (hCons (eComp [4, 5, 6] (iSeq (eVar 0)) (gTp 3 (gsCons (gNm 4) (gsCons (gNm 5) (gsCons (gNm 6) gsNil)))) mYes (eVar 6)) hNil) (g1 minD)) (eVar 2))))
  (r_middle_rule_4 g_check_jobs g_ends_of g_johnson))
def r_middle_rule_2 (g_check_jobs g_ends_of g_johnson : List D → T D) : MS := (sSeq (sSet 2 (eCall (hCons (eComp [4, 5, 6] (iSeq (eVar 0)) (gTp 3 (gsCons (gNm 4) (gsCons (gNm 5) (gsCons (gNm 6) gsNil)))) mYes (eVar 5)) hNil) (g1 maxD)))
  (r_middle_rule_3 g_check_jobs g_ends_of g_johnson))
def r_middle_rule_1 (g_check_jobs g_ends_of g_johnson : List D → T D) : MS := (sSeq (sSet 1 (eDef g_johnson (hCons (eComp [4, 5, 6] (iSeq (eVar 0)) (gTp 3 (gsCons (gNm 4) (gsCons (gNm 5) (gsCons (gNm 6) gsNil)))) mYes (eTup (hCons (eOp gAdd (eVar 4) (eVar 5)) (hCons (eOp gAdd (eVar 5) (eVar 6)) hNil)))) hNil)))
  (r_middle_rule_2 g_check_jobs g_ends_of g_johnson))
def b_middle_rule (g_check_jobs g_ends_of g_johnson : List D → T D) : MS := (sSeq (sDrop (eDef g_check_jobs (hCons (eVar 0) (hCons (eC (.int 20)) (hCons (eC (.int 3)) hNil)))))
  (r_middle_rule_1 g_check_jobs g_ends_of g_johnson))
def m_middle_rule : MS := b_middle_rule g_check_jobs g_ends_of g_johnson
def g_middle_rule : List D → T D := mkFn 7 1 m_middle_rule
theorem has_middle_rule {k : Nat} (B : Bl mg) (c_MOST_JOBS : CAt mg "MOST_JOBS" (.int 20)) (c_PAIR : CAt mg "PAIR" (.int 2)) (c_TRIPLE : CAt mg "TRIPLE" (.int 3)) (h_check_jobs : Has Pg w K mg base k "check_jobs" 3 g_check_jobs) (h_ends_of : Has Pg w K mg base k "ends_of" 2 g_ends_of) (h_johnson : Has Pg w K mg base k "johnson" 1 g_johnson) (Dn : DefIn K mg "middle_rule" st_middle_rule ["jobs"]) : Has Pg w K mg base (k + 1) "middle_rule" 1 g_middle_rule := by
  obtain ⟨f, fd, Fn, hm, hb⟩ := Dn.ex
  have sc := sc_middle_rule
  exact ⟨f, fd, _, hm, Fn.kp, hb, rfl, fn_okG Fn sc (fun cdv A outer s H Z hr => (ss_cons (s_expr (m_call h_check_jobs hr (hCons_len (hCons_len (hCons_len hNil_len))) (a_cons (m_var 0) (a_cons (m_glob c_MOST_JOBS) (a_cons (m_glob c_TRIPLE) a_nil)))))
  (ss_cons (s_set sc.nd (m_call h_johnson hr (hCons_len hNil_len) (a_cons (m_comp [("wash", 4), ("wring", 5), ("iron", 6)] sc.nd (pi_seqM rfl (m_var 0)) (blkOk_by (by kernel_rfl)) (fun _ _ _ _ _ => (g_tup (gs_cons (g_name 4 sc.nd) (gs_cons (g_name 5 sc.nd) (gs_cons (g_name 6 sc.nd) gs_nil))))) (fun _ _ _ _ _ => ts_nil) (fun _ _ _ _ _ => (m_tup (a_cons (m_op op_addM gAdd_ns (m_var 4) (m_var 5)) (a_cons (m_op op_addM gAdd_ns (m_var 5) (m_var 6)) a_nil)) (hCons_len (hCons_len hNil_len))))) a_nil)))
  (ss_cons (s_set sc.nd (m_fn (call_maxM rfl) (g1_ns maxD_ns) B.max (by decide +kernel) (a_cons (m_comp [("wash", 4), ("wring", 5), ("iron", 6)] sc.nd (pi_seqM rfl (m_var 0)) (blkOk_by (by kernel_rfl)) (fun _ _ _ _ _ => (g_tup (gs_cons (g_name 4 sc.nd) (gs_cons (g_name 5 sc.nd) (gs_cons (g_name 6 sc.nd) gs_nil))))) (fun _ _ _ _ _ => ts_nil) (fun _ _ _ _ _ => (m_var 5))) a_nil)))
  (ss_cons (s_set sc.nd (m_or (m_cmp op_geM gI_ns (m_fn (r_min hr rfl) (g1_ns minD_ns) B.min (by decide +kernel) (a_cons (m_comp [("wash", 4), ("wring", 5), ("iron", 6)] sc.nd (pi_seqM rfl (m_var 0)) (blkOk_by (by kernel_rfl)) (fun _ _ _ _ _ => (g_tup (gs_cons (g_name 4 sc.nd) (gs_cons (g_name 5 sc.nd) (gs_cons (g_name 6 sc.nd) gs_nil))))) (fun _ _ _ _ _ => ts_nil) (fun _ _ _ _ _ => (m_var 4))) a_nil)) (m_var 2) (nomark _)) (m_one (m_cmp op_geM gI_ns (m_fn (r_min hr rfl) (g1_ns minD_ns) B.min (by decide +kernel) (a_cons (m_comp [("wash", 4), ("wring", 5), ("iron", 6)] sc.nd (pi_seqM rfl (m_var 0)) (blkOk_by (by kernel_rfl)) (fun _ _ _ _ _ => (g_tup (gs_cons (g_name 4 sc.nd) (gs_cons (g_name 5 sc.nd) (gs_cons (g_name 6 sc.nd) gs_nil))))) (fun _ _ _ _ _ => ts_nil) (fun _ _ _ _ _ => (m_var 6))) a_nil)) (m_var 2) (nomark _)))))
  (ss_one (s_ret (m_tup (a_cons (m_ix (m_ix (m_call h_ends_of hr (hCons_len (hCons_len hNil_len)) (a_cons (m_var 0) (a_cons (m_var 1) a_nil))) (m_un un_negM gNeg_ns m_int)) (m_glob c_PAIR)) (a_cons (m_var 1) (a_cons (m_var 3) a_nil))) (hCons_len (hCons_len (hCons_len hNil_len)))))))))))⟩
abbrev st__law_pot : Stmt := topS 28
theorem sc__law_pot : FnScope ["script", "place", "cell", "own", "small"] ["script", "place"] (defScope st__law_pot) := ⟨rfl, rfl, rfl, by decide +kernel, rfl, by decide +kernel, by decide +kernel⟩
def r__law_pot_3 : MS := (sRet (eLst (hCons (eVar 3) (hCons (eOp (gI iMod) (eCall (hCons (eOp gAdd (eOp gAdd (eOp gMul (eVar 4) (eC (.int 83477))) (eOp gMul (eOp gMul (eC (.int 12289)) (eVar 1)) (eVar 1))) (eC (.int 3571))) hNil) (g1 intD)) (eC (.int 2305843009213693921))) (hCons (eC (.int 0)) hNil)))))
def r__law_pot_2 : MS := (sSeq (sSet 4 (eOp (gI iMod) (eCall (hCons (eVar 2) hNil) (g1 intD)) (eC (.int 2305843009213693951))))
  (r__law_pot_3))
def r__law_pot_1 : MS := (sSeq (sSet 3 (eOp gMul (eOp (gI iMod) (eCall (hCons (eCall (hCons (eVar 2) hNil) (g1 absD)) hNil) (g1 intD)) (eOp (gI iPow) (eOp (gI iPow) (eC (.int 10)) (eC (.int 60))) (eC (.int 5)))) (eCall (hCons (eOp (gI iGe) (eCall (hCons (eVar 2) hNil) (g1 absD)) (eOp (gI iPow) (eC (.int 10)) (eC (.int 18)))) hNil) (g1 intD))))
  (r__law_pot_2))
def b__law_pot : MS := (sSeq (sSet 2 (eIf (mTest (eOp gLt (eVar 1) (eCall (hCons (eVar 0) hNil) (g1 lenD)))) (eOp gIx (eVar 0) (eVar 1)) (eOp gAdd (eOp gAdd (eOp (gI iMod) (eCall (hCons (eCall (hCons (eSl (eVar 0) oNone (oSome (eC (.int 1)))) hNil) (g1 sumD)) hNil) (g1 intD)) (eC (.int 1000253))) (eOp gMul (eC (.int 7331)) (eVar 1))) (eC (.int 4177)))))
  (r__law_pot_1))
def m__law_pot : MS := b__law_pot
def q__law_pot : List D → T D := mkFn 5 2 m__law_pot
theorem has0__law_pot {k : Nat} (B : Bl mg)   (Dn : DefIn K mg "_law_pot" st__law_pot ["script", "place"]) : Has Pg w K mg base (k + 1) "_law_pot" 2 q__law_pot := by
  obtain ⟨f, fd, Fn, hm, hb⟩ := Dn.ex
  have sc := sc__law_pot
  exact ⟨f, fd, _, hm, Fn.kp, hb, rfl, fn_okG Fn sc (fun cdv A outer s H Z hr => (ss_cons (s_set sc.nd (m_if (t_cmp (r_lt hr) gLt_ns (m_var 1) (m_fn call_lenM (g1_ns lenD_ns) B.len (by decide +kernel) (a_cons (m_var 0) a_nil)) (nomark _)) (m_ix (m_var 0) (m_var 1)) (m_op op_addM gAdd_ns (m_op op_addM gAdd_ns (m_op op_modM gI_ns (m_ty call_intM (g1_ns intD_ns) B.int (by decide +kernel) (a_cons (m_fn (call_sumM rfl) (g1_ns sumD_ns) B.sum (by decide +kernel) (a_cons (m_sl (m_var 0) o_none (o_some m_int)) a_nil)) a_nil)) m_int) (m_op op_mulM gMul_ns m_int (m_var 1))) m_int)))
  (ss_cons (s_set sc.nd (m_op op_mulM gMul_ns (m_op op_modM gI_ns (m_ty call_intM (g1_ns intD_ns) B.int (by decide +kernel) (a_cons (m_fn call_absM (g1_ns absD_ns) B.abs (by decide +kernel) (a_cons (m_var 2) a_nil)) a_nil)) (m_op op_powM gI_ns (m_op op_powM gI_ns m_int m_int) m_int)) (m_ty call_intM (g1_ns intD_ns) B.int (by decide +kernel) (a_cons (m_cmp op_geM gI_ns (m_fn call_absM (g1_ns absD_ns) B.abs (by decide +kernel) (a_cons (m_var 2) a_nil)) (m_op op_powM gI_ns m_int m_int) (nomark _)) a_nil))))
  (ss_cons (s_set sc.nd (m_op op_modM gI_ns (m_ty call_intM (g1_ns intD_ns) B.int (by decide +kernel) (a_cons (m_var 2) a_nil)) m_int))
  (ss_one (s_ret (m_lst (a_cons (m_var 3) (a_cons (m_op op_modM gI_ns (m_ty call_intM (g1_ns intD_ns) B.int (by decide +kernel) (a_cons (m_op op_addM gAdd_ns (m_op op_addM gAdd_ns (m_op op_mulM gMul_ns (m_var 4) m_int) (m_op op_mulM gMul_ns (m_op op_mulM gMul_ns m_int (m_var 1)) (m_var 1))) m_int) a_nil)) m_int) (a_cons m_int a_nil))) (hCons_len (hCons_len (hCons_len hNil_len))))))))))⟩
abbrev g__law_pot : List D → T D := potG
abbrev st__law_take : Stmt := topS 29
theorem sc__law_take : FnScope ["pot", "upto", "digit", "prime", "mixture"] ["pot", "upto"] (defScope st__law_take) := ⟨rfl, rfl, rfl, by decide +kernel, rfl, by decide +kernel, by decide +kernel⟩
abbrev g__law_take : List D → T D := takeG
theorem has__law_take {k : Nat} (B : Bl mg) (Dn : DefIn K mg "_law_take" st__law_take ["pot", "upto"]) : Has Pg w K mg base (k + 1) "_law_take" 2 g__law_take := by
  obtain ⟨f, fd, Fn, hm, hb⟩ := Dn.ex
  have sc := sc__law_take
  refine ⟨f, fd, _, hm, Fn.kp, hb, rfl, fnG_of Fn sc (fun vs H Q E h => ?_) (fun cdv A outer s H vs Q hr h => ?_)⟩
  · obtain ⟨_, _, _, _, hl, _⟩ := h
    exact hl
  · exact ⟨takeR K, pss_cons (ps_if (pt_cmpR op_gt (pe_ix ix_list (pv 0) pe_int (fun _ _ => rfl)) pe_int (nomark _)) (pss_cons (ps_set sc.nd rfl (.inl rfl) (pe_op op_mod (pe_callTy call_int1 (by rfl) B.int (by decide +kernel) (pa_cons (pe_ix ix_list (pv 0) pe_int (fun _ _ => rfl)) pa_nil)) (pv 1))) (pss_cons (ps_asg (pe_op op_fdiv (pe_ix ix_list (pv 0) pe_int (fun _ _ => rfl)) (pv 1)) (pg_sub (pv 0) pe_int set_list)) (pss_one (ps_ret (pv 2))))) pss_nil)
      (pss_cons (ps_asg (pe_op op_add (pe_ix ix_list (pv 0) pe_int (fun _ _ => rfl)) pe_int) (pg_sub (pv 0) pe_int set_list))
      (pss_cons (ps_set sc.nd rfl (.inl rfl) (pe_ix ix_list (pe_lst (pa_cons pe_int (pa_cons pe_int (pa_cons pe_int (pa_cons pe_int (pa_cons pe_int pa_nil)))))) (pe_op op_mod (pe_callTy call_int1 (by rfl) B.int (by decide +kernel) (pa_cons (pe_ix ix_list (pv 0) pe_int (fun _ _ => rfl)) pa_nil)) pe_int) (fun _ _ => rfl)))
      (pss_cons (ps_set sc.nd rfl (.inl rfl) (pe_op op_mod (pe_callTy call_int1 (by rfl) B.int (by decide +kernel) (pa_cons (pe_op op_powB (pe_callTy call_int1 (by rfl) B.int (by decide +kernel) (pa_cons (pe_op op_add (pe_op op_add (pe_ix ix_list (pv 0) pe_int (fun _ _ => rfl)) (pe_op op_mulW (pe_op op_mulW pe_int (pe_ix ix_list (pv 0) pe_int (fun _ _ => rfl))) (pe_ix ix_list (pv 0) pe_int (fun _ _ => rfl)))) pe_int) pa_nil)) pe_int) pa_nil)) (pv 3)))
      (pss_cons (ps_set sc.nd rfl (.inl rfl) (pe_op op_mod (pe_callTy call_int1 (by rfl) B.int (by decide +kernel) (pa_cons (pe_op op_mulW (pv 4) (pe_op op_add (pe_op op_mod (pe_callTy call_int1 (by rfl) B.int (by decide +kernel) (pa_cons (pv 4) pa_nil)) pe_int) (pe_op op_mulW pe_int (pe_ix ix_list (pv 0) pe_int (fun _ _ => rfl))))) pa_nil)) pe_int))
      (pss_one (ps_ret (pe_op op_mod (pe_callTy call_int1 (by rfl) B.int (by decide +kernel) (pa_cons (pe_op op_fdiv (pv 4) pe_int) pa_nil)) (pv 1)))))))), take_read rfl h⟩
abbrev st__law_of : Stmt := topS 30
theorem sc__law_of : FnScope ["pot", "some"] ["pot", "some"] (defScope st__law_of) := ⟨rfl, rfl, rfl, by decide +kernel, rfl, by decide +kernel, by decide +kernel⟩
def b__law_of (g__law_take : List D → T D) : MS := (sRet (eOp gIx (eVar 1) (eDef g__law_take (hCons (eVar 0) (hCons (eCall (hCons (eVar 1) hNil) (g1 lenD)) hNil)))))
def m__law_of : MS := b__law_of g__law_take
def g__law_of : List D → T D := mkFn 2 2 m__law_of
theorem has__law_of {k : Nat} (B : Bl mg)  (h__law_take : Has Pg w K mg base k "_law_take" 2 g__law_take) (Dn : DefIn K mg "_law_of" st__law_of ["pot", "some"]) : Has Pg w K mg base (k + 1) "_law_of" 2 g__law_of := by
  obtain ⟨f, fd, Fn, hm, hb⟩ := Dn.ex
  have sc := sc__law_of
  exact ⟨f, fd, _, hm, Fn.kp, hb, rfl, fn_okG Fn sc (fun cdv A outer s H Z hr => (ss_one (s_ret (m_ix (m_var 1) (m_call h__law_take hr (hCons_len (hCons_len hNil_len)) (a_cons (m_var 0) (a_cons (m_fn call_lenM (g1_ns lenD_ns) B.len (by decide +kernel) (a_cons (m_var 1) a_nil)) a_nil)))))))⟩
abbrev st__law_cells : Stmt := topS 31
theorem sc__law_cells : FnScope ["script", "most"] ["script", "most"] (defScope st__law_cells) := ⟨rfl, rfl, rfl, by decide +kernel, rfl, by decide +kernel, by decide +kernel⟩
def b__law_cells : MS := (sRet (eRg1 mkL (eCall (hCons (eC (.int 1)) (hCons (eCall (hCons (eVar 1) (hCons (eCall (hCons (eVar 0) hNil) (g1 lenD)) hNil)) (gI2 min)) hNil)) (gI2 max))))
def m__law_cells : MS := b__law_cells
def g__law_cells : List D → T D := mkFn 2 2 m__law_cells
theorem has__law_cells {k : Nat} (B : Bl mg)   (Dn : DefIn K mg "_law_cells" st__law_cells ["script", "most"]) : Has Pg w K mg base (k + 1) "_law_cells" 2 g__law_cells := by
  obtain ⟨f, fd, Fn, hm, hb⟩ := Dn.ex
  have sc := sc__law_cells
  exact ⟨f, fd, _, hm, Fn.kp, hb, rfl, fn_okG Fn sc (fun cdv A outer s H Z hr => (ss_one (s_ret (m_listRg1 B.list B.range (m_fn (call_max2M rfl) gI2_ns B.max (by decide +kernel) (a_cons m_int (a_cons (m_fn (call_min2M rfl) gI2_ns B.min (by decide +kernel) (a_cons (m_var 1) (a_cons (m_fn call_lenM (g1_ns lenD_ns) B.len (by decide +kernel) (a_cons (m_var 0) a_nil)) a_nil))) a_nil)))))))⟩
abbrev st__law_some : Stmt := topS 32
theorem sc__law_some : FnScope ["pot", "pool", "many", "rests", "found", "lap"] ["pot", "pool", "many"] (defScope st__law_some) := ⟨rfl, rfl, rfl, by decide +kernel, rfl, by decide +kernel, by decide +kernel⟩
def f__law_some_1 (g__law_take : List D → T D) : MS := (sDrop (eMut gAppend 4 (hCons (eMut gPop1 3 (hCons (eDef g__law_take (hCons (eVar 0) (hCons (eCall (hCons (eVar 3) hNil) (g1 lenD)) hNil))) hNil)) hNil)))
def b__law_some (g__law_take : List D → T D) : MS := (sSeq (sPar [3, 4] (hCons (eCall (hCons (eVar 1) hNil) (g1 listD)) (hCons (eLst hNil) hNil)))
  (sSeq (sFor (iRng (hCons (eVar 2) hNil)) (gNm 5) (f__law_some_1 g__law_take))
  (sRet (eVar 4))))
def m__law_some : MS := b__law_some g__law_take
def g__law_some : List D → T D := mkFn 6 3 m__law_some
theorem has__law_some {k : Nat} (B : Bl mg)  (h__law_take : Has Pg w K mg base k "_law_take" 2 g__law_take) (Dn : DefIn K mg "_law_some" st__law_some ["pot", "pool", "many"]) : Has Pg w K mg base (k + 1) "_law_some" 3 g__law_some := by
  obtain ⟨f, fd, Fn, hm, hb⟩ := Dn.ex
  have sc := sc__law_some
  exact ⟨f, fd, _, hm, Fn.kp, hb, rfl, fn_okG Fn sc (fun cdv A outer s H Z hr => (ss_cons (s_par2 sc.nd (a_cons (m_ty call_listM (g1_ns listD_ns) B.list (by decide +kernel) (a_cons (m_var 1) a_nil)) (a_cons (m_lst a_nil hNil_len) a_nil)) (hCons_len (hCons_len hNil_len)))
  (ss_cons (s_for (g_name 5 sc.nd) (pi_rng1M rfl (by rfl) B.range (a_cons (m_var 2) a_nil) (hCons_len hNil_len)) (ss_one (s_expr (m_mut op_append mt_append PySem.F.slot_list_append PySem.F.type_list_append (pv 4) (a_cons (m_mut op_pop1 mt_popAt PySem.F.slot_list_pop PySem.F.type_list_pop (pv 3) (a_cons (m_call h__law_take hr (hCons_len (hCons_len hNil_len)) (a_cons (m_var 0) (a_cons (m_fn call_lenM (g1_ns lenD_ns) B.len (by decide +kernel) (a_cons (m_var 3) a_nil)) a_nil))) a_nil)) a_nil)))))
  (ss_one (s_ret (m_var 4))))))⟩
abbrev st__law_is_bool : Stmt := topS 33
theorem sc__law_is_bool : FnScope ["told", "due"] ["told", "due"] (defScope st__law_is_bool) := ⟨rfl, rfl, rfl, by decide +kernel, rfl, by decide +kernel, by decide +kernel⟩
def b__law_is_bool : MS := (sRet (eAnd (eIsi "bool" (eVar 0)) (eOp gEq (eVar 0) (eVar 1))))
def m__law_is_bool : MS := b__law_is_bool
def g__law_is_bool : List D → T D := mkFn 2 2 m__law_is_bool
theorem has__law_is_bool {k : Nat} (B : Bl mg)   (Dn : DefIn K mg "_law_is_bool" st__law_is_bool ["told", "due"]) : Has Pg w K mg base (k + 1) "_law_is_bool" 2 g__law_is_bool := by
  obtain ⟨f, fd, Fn, hm, hb⟩ := Dn.ex
  have sc := sc__law_is_bool
  exact ⟨f, fd, _, hm, Fn.kp, hb, rfl, fn_okG Fn sc (fun cdv A outer s H Z hr => (ss_one (s_ret (m_and (m_isi B.isinstance B.bool (by decide +kernel) (m_var 0)) (m_one (m_cmp (r_eq hr) gEq_ns (m_var 0) (m_var 1) (nomark _)))))))⟩
abbrev st__law_jobs : Stmt := topS 34
theorem sc__law_jobs : FnScope ["pot", "many", "machines", "top", "found", "at", "machine"] ["pot", "many", "machines"] (defScope st__law_jobs) := ⟨rfl, rfl, rfl, by decide +kernel, rfl, by decide +kernel, by decide +kernel⟩
def f__law_jobs_1 (g__law_of g__law_take : List D → T D) : MS := (sSeq (sDrop (eMut gAppend 4 (hCons (eCall (hCons (eComp [6] (iRng (hCons (eVar 2) hNil)) (gNm 6) mYes (eCall (hCons (eDef g__law_take (hCons (eVar 0) (hCons (eVar 3) hNil))) hNil) (g1 intD))) hNil) (g1 tupleD)) hNil)))
  (sIf (mAnd (mTest (eOp (gI iGt) (eVar 5) (eC (.int 0)))) (mTest (eOp gEq (eDef g__law_take (hCons (eVar 0) (hCons (eC (.int 5)) hNil))) (eC (.int 0))))) (sStore 4 (eUn gNeg (eC (.int 1))) (eOp gIx (eVar 4) (eUn gNeg (eC (.int 2))))) sNext))
def b__law_jobs (g__law_of g__law_take : List D → T D) : MS := (sSeq (sPar [3, 4] (hCons (eDef g__law_of (hCons (eVar 0) (hCons (eLst (hCons (eC (.int 4)) (hCons (eC (.int 60)) (hCons (eC (.int 1001)) hNil)))) hNil))) (hCons (eLst hNil) hNil)))
  (sSeq (sFor (iRng (hCons (eVar 1) hNil)) (gNm 5) (f__law_jobs_1 g__law_of g__law_take))
  (sRet (eCall (hCons (eVar 4) hNil) (g1 tupleD)))))
def m__law_jobs : MS := b__law_jobs g__law_of g__law_take
def g__law_jobs : List D → T D := mkFn 7 3 m__law_jobs
theorem has__law_jobs {k : Nat} (B : Bl mg)  (h__law_of : Has Pg w K mg base k "_law_of" 2 g__law_of) (h__law_take : Has Pg w K mg base k "_law_take" 2 g__law_take) (Dn : DefIn K mg "_law_jobs" st__law_jobs ["pot", "many", "machines"]) : Has Pg w K mg base (k + 1) "_law_jobs" 3 g__law_jobs := by
  obtain ⟨f, fd, Fn, hm, hb⟩ := Dn.ex
  have sc := sc__law_jobs
  exact ⟨f, fd, _, hm, Fn.kp, hb, rfl, fn_okG Fn sc (fun cdv A outer s H Z hr => (ss_cons (s_parT (pn_cons 3 sc.nd (pn_cons 4 sc.nd pn_nil)) (a_cons (m_call h__law_of hr (hCons_len (hCons_len hNil_len)) (a_cons (m_var 0) (a_cons (m_lst (a_cons m_int (a_cons m_int (a_cons m_int a_nil))) (hCons_len (hCons_len (hCons_len hNil_len)))) a_nil))) (a_cons (m_lst a_nil hNil_len) a_nil)) (hCons_len (hCons_len hNil_len)))
  (ss_cons (s_for (g_name 5 sc.nd) (pi_rng1M rfl (by rfl) B.range (a_cons (m_var 1) a_nil) (hCons_len hNil_len)) (ss_cons (s_expr (m_mut op_append mt_append PySem.F.slot_list_append PySem.F.type_list_append (pv 4) (a_cons (m_ty call_tupleM (g1_ns tupleD_ns) B.tuple (by decide +kernel) (a_cons (m_comp [("machine", 6)] sc.nd (pi_rng1M rfl (by rfl) B.range (a_cons (m_var 2) a_nil) (hCons_len hNil_len)) (blkOk_by (by kernel_rfl)) (fun _ _ _ _ _ => (g_name 6 sc.nd)) (fun _ _ _ _ _ => ts_nil) (fun _ _ _ _ _ => (m_ty call_intM (g1_ns intD_ns) B.int (by decide +kernel) (a_cons (m_call h__law_take hr (hCons_len (hCons_len hNil_len)) (a_cons (m_var 0) (a_cons (m_var 3) a_nil))) a_nil)))) a_nil)) a_nil)))
  (ss_one (s_if (PW.pt (w_and (t_cmp op_gtM gI_ns (m_var 5) m_int (nomark _)) (w_one (t_cmp (r_eq hr) gEq_ns (m_call h__law_take hr (hCons_len (hCons_len hNil_len)) (a_cons (m_var 0) (a_cons m_int a_nil))) m_int (nomark _))))) (ss_one (s_store (pv 4) (m_un un_negM gNeg_ns m_int) (m_ix (m_var 4) (m_un un_negM gNeg_ns m_int)))) ss_nil))))
  (ss_one (s_ret (m_ty call_tupleM (g1_ns tupleD_ns) B.tuple (by decide +kernel) (a_cons (m_var 4) a_nil)))))))⟩
abbrev st__law_ends : Stmt := topS 35
theorem sc__law_ends : FnScope ["jobs", "order", "begin", "free", "found", "at", "ready", "machine", "time"] ["jobs", "order", "begin"] (defScope st__law_ends) := ⟨rfl, rfl, rfl, by decide +kernel, rfl, by decide +kernel, by decide +kernel⟩
def f__law_ends_1 : MS := (sSeq (sSet 6 (eOp gAdd (eCall (hCons (eVar 6) (hCons (eOp gIx (eVar 3) (eVar 7)) hNil)) (gI2 max)) (eVar 8)))
  (sStore 3 (eVar 7) (eVar 6)))
def f__law_ends_2 : MS := (sSeq (sSet 6 (eC (.int 0)))
  (sSeq (sFor (iEnumM (hCons (eOp gIx (eVar 0) (eVar 5)) hNil)) (gTp 2 (gsCons (gNm 7) (gsCons (gNm 8) gsNil))) (f__law_ends_1))
  (sDrop (eMut gAppend 4 (hCons (eCall (hCons (eVar 3) hNil) (g1 tupleD)) hNil)))))
def b__law_ends : MS := (sSeq (sPar [3, 4] (hCons (eCall (hCons (eVar 2) hNil) (g1 listD)) (hCons (eLst hNil) hNil)))
  (sSeq (sFor (iSeq (eVar 1)) (gNm 5) (f__law_ends_2))
  (sRet (eVar 4))))
def m__law_ends : MS := b__law_ends
def g__law_ends : List D → T D := mkFn 9 3 m__law_ends
theorem has__law_ends {k : Nat} (B : Bl mg)   (Dn : DefIn K mg "_law_ends" st__law_ends ["jobs", "order", "begin"]) : Has Pg w K mg base (k + 1) "_law_ends" 3 g__law_ends := by
  obtain ⟨f, fd, Fn, hm, hb⟩ := Dn.ex
  have sc := sc__law_ends
  exact ⟨f, fd, _, hm, Fn.kp, hb, rfl, fn_okG Fn sc (fun cdv A outer s H Z hr => (ss_cons (s_par2 sc.nd (a_cons (m_ty call_listM (g1_ns listD_ns) B.list (by decide +kernel) (a_cons (m_var 2) a_nil)) (a_cons (m_lst a_nil hNil_len) a_nil)) (hCons_len (hCons_len hNil_len)))
  (ss_cons (s_for (g_name 5 sc.nd) (pi_seqM rfl (m_var 1)) (ss_cons (s_set sc.nd m_int)
  (ss_cons (s_for (g_tup (gs_cons (g_name 7 sc.nd) (gs_cons (g_name 8 sc.nd) gs_nil))) (pi_enumM rfl (by rfl) B.enumerate (a_cons (m_ix (m_var 0) (m_var 5)) a_nil)) (ss_cons (s_set sc.nd (m_op op_addM gAdd_ns (m_fn (call_max2M rfl) gI2_ns B.max (by decide +kernel) (a_cons (m_var 6) (a_cons (m_ix (m_var 3) (m_var 7)) a_nil))) (m_var 8)))
  (ss_one (s_store (pv 3) (m_var 7) (m_var 6)))))
  (ss_one (s_expr (m_mut op_append mt_append PySem.F.slot_list_append PySem.F.type_list_append (pv 4) (a_cons (m_ty call_tupleM (g1_ns tupleD_ns) B.tuple (by decide +kernel) (a_cons (m_var 3) a_nil)) a_nil)))))))
  (ss_one (s_ret (m_var 4))))))⟩
abbrev st__law_best : Stmt := topS 36
theorem sc__law_best : FnScope ["jobs", "first", "last", "at", "wash", "wring", "time"] ["jobs"] (defScope st__law_best) := ⟨rfl, rfl, rfl, by decide +kernel, rfl, by decide +kernel, by decide +kernel⟩
def b__law_best (g__law_ends : List D → T D) : MS := (sSeq (sSet 1 (eCall (hCons (eComp [3, 4, 5] (iEnumM (hCons (eVar 0) hNil)) (gTp 2 (gsCons (gNm 3) (gsCons (gTp 2 (gsCons (gNm 4) (gsCons (gNm 5) gsNil))) gsNil))) (mTest (eOp gLt (eVar 4) (eVar 5))) (eTup (hCons (eVar 4) (hCons (eVar 3) hNil)))) hNil) (g1 sortedD)))
  (sSeq (sSet 2 (eCall (hCons (eComp [3, 4, 5] (iEnumM (hCons (eVar 0) hNil)) (gTp 2 (gsCons (gNm 3) (gsCons (gTp 2 (gsCons (gNm 4) (gsCons (gNm 5) gsNil))) gsNil))) (mTest (eOp (gI iGe) (eVar 4) (eVar 5))) (eTup (hCons (eUn gNeg (eVar 5)) (hCons (eVar 3) hNil)))) hNil) (g1 sortedD)))
  (sRet (eOp gIx (eOp gIx (eDef g__law_ends (hCons (eVar 0) (hCons (eComp [6, 3] (iSeq (eOp gAdd (eVar 1) (eVar 2))) (gTp 2 (gsCons (gNm 6) (gsCons (gNm 3) gsNil))) mYes (eVar 3)) (hCons (eTup (hCons (eC (.int 0)) (hCons (eC (.int 0)) hNil))) hNil)))) (eUn gNeg (eC (.int 1)))) (eC (.int 1))))))
def m__law_best : MS := b__law_best g__law_ends
def g__law_best : List D → T D := mkFn 7 1 m__law_best
theorem has__law_best {k : Nat} (B : Bl mg)  (h__law_ends : Has Pg w K mg base k "_law_ends" 3 g__law_ends) (Dn : DefIn K mg "_law_best" st__law_best ["jobs"]) : Has Pg w K mg base (k + 1) "_law_best" 1 g__law_best := by
  obtain ⟨f, fd, Fn, hm, hb⟩ := Dn.ex
  have sc := sc__law_best
  exact ⟨f, fd, _, hm, Fn.kp, hb, rfl, fn_okG Fn sc (fun cdv A outer s H Z hr => (ss_cons (s_set sc.nd (m_fn (r_sorted hr) (g1_ns sortedD_ns) B.sorted (by decide +kernel) (a_cons (m_comp [("at", 3), ("wash", 4), ("wring", 5)] sc.nd (pi_enumM rfl (by rfl) B.enumerate (a_cons (m_var 0) a_nil)) (blkOk_by (by kernel_rfl)) (fun _ _ _ _ _ => (g_tup (gs_cons (g_name 3 sc.nd) (gs_cons (g_tup (gs_cons (g_name 4 sc.nd) (gs_cons (g_name 5 sc.nd) gs_nil))) gs_nil)))) (fun _ _ _ _ _ => (ts_one (t_cmp (r_lt hr) gLt_ns (m_var 4) (m_var 5) (nomark _)))) (fun _ _ _ _ _ => (m_tup (a_cons (m_var 4) (a_cons (m_var 3) a_nil)) (hCons_len (hCons_len hNil_len))))) a_nil)))
  (ss_cons (s_set sc.nd (m_fn (r_sorted hr) (g1_ns sortedD_ns) B.sorted (by decide +kernel) (a_cons (m_comp [("at", 3), ("wash", 4), ("wring", 5)] sc.nd (pi_enumM rfl (by rfl) B.enumerate (a_cons (m_var 0) a_nil)) (blkOk_by (by kernel_rfl)) (fun _ _ _ _ _ => (g_tup (gs_cons (g_name 3 sc.nd) (gs_cons (g_tup (gs_cons (g_name 4 sc.nd) (gs_cons (g_name 5 sc.nd) gs_nil))) gs_nil)))) (fun _ _ _ _ _ => (ts_one (t_cmp op_geM gI_ns (m_var 4) (m_var 5) (nomark _)))) (fun _ _ _ _ _ => (m_tup (a_cons (m_un un_negM gNeg_ns (m_var 5)) (a_cons (m_var 3) a_nil)) (hCons_len (hCons_len hNil_len))))) a_nil)))
  (ss_one (s_ret (m_ix (m_ix (m_call h__law_ends hr (hCons_len (hCons_len (hCons_len hNil_len))) (a_cons (m_var 0) (a_cons (m_comp [("time", 6), ("at", 3)] sc.nd (pi_seqM rfl (m_op op_addM gAdd_ns (m_var 1) (m_var 2))) (blkOk_by (by kernel_rfl)) (fun _ _ _ _ _ => (g_tup (gs_cons (g_name 6 sc.nd) (gs_cons (g_name 3 sc.nd) gs_nil)))) (fun _ _ _ _ _ => ts_nil) (fun _ _ _ _ _ => (m_var 3))) (a_cons (m_tup (a_cons m_int (a_cons m_int a_nil)) (hCons_len (hCons_len hNil_len))) a_nil)))) (m_un un_negM gNeg_ns m_int)) m_int))))))⟩
abbrev st__law_are_shifts_right : Stmt := topS 37
theorem sc__law_are_shifts_right : FnScope ["pot", "one", "other", "jobs", "many", "rows", "order", "first", "due", "told", "best", "alone", "part", "its", "rest", "mixed", "near", "at", "spot", "some", "number", "back", "wash", "wring"] ["pot", "one", "other"] (defScope st__law_are_shifts_right) := ⟨rfl, rfl, rfl, by decide +kernel, rfl, by decide +kernel, by decide +kernel⟩
def f__law_are_shifts_right_1 (g__law_best g__law_ends g__law_is_bool g__law_some g__law_take g_ends g_shows_soonest g_soonest g_waits : List D → T D) : MS := (sSeq (sIf (mOr (mTest (eOp gNe (eOp gIx (eVar 11) (eVar 12)) (eDef g__law_best (hCons (eVar 13) hNil)))) (mTest (eOp gLt (eVar 10) (eOp gIx (eVar 11) (eVar 12))))) (sRet (eC (.bl false))) sNext)
  (sSeq (sIf (mTest (eOp gLt (eVar 10) (eOp gAdd (eCall (hCons (eComp [22, 23] (iSeq (eVar 3)) (gTp 2 (gsCons (gNm 22) (gsCons (gNm 23) gsNil))) mYes (eVar 22)) hNil) (g1 sumD)) (eCall (hCons (eComp [22, 23] (iSeq (eVar 3)) (gTp 2 (gsCons (gNm 22) (gsCons (gNm 23) gsNil))) mYes (eVar 23)) hNil) (g1 minD))))) (sRet (eC (.bl false))) sNext)
  (sIf (mTest (eOp gLt (eVar 10) (eOp gAdd (eCall (hCons (eComp [22, 23] (iSeq (eVar 3)) (gTp 2 (gsCons (gNm 22) (gsCons (gNm 23) gsNil))) mYes (eVar 23)) hNil) (g1 sumD)) (eCall (hCons (eComp [22, 23] (iSeq (eVar 3)) (gTp 2 (gsCons (gNm 22) (gsCons (gNm 23) gsNil))) mYes (eVar 22)) hNil) (g1 minD))))) (sRet (eC (.bl false))) sNext)))
def f__law_are_shifts_right_2 (g__law_best g__law_ends g__law_is_bool g__law_some g__law_take g_ends g_shows_soonest g_soonest g_waits : List D → T D) : MS := (sIf (mNot (mTest (eDef g__law_is_bool (hCons (eDef g_shows_soonest (hCons (eVar 3) (hCons (eTup (hCons (eVar 20) (hCons (eVar 19) hNil))) hNil))) (hCons (eChain gEq gEq (eVar 20) (eVar 13) (eVar 10)) hNil))))) (sRet (eC (.bl false))) sNext)
def f__law_are_shifts_right_3 (g__law_best g__law_ends g__law_is_bool g__law_some g__law_take g_ends g_shows_soonest g_soonest g_waits : List D → T D) : MS := (sSeq (sSet 13 (eOp gIx (eOp gIx (eDef g__law_ends (hCons (eVar 3) (hCons (eVar 19) (hCons (eTup (hCons (eC (.int 0)) (hCons (eC (.int 0)) hNil))) hNil)))) (eUn gNeg (eC (.int 1)))) (eC (.int 1))))
  (sSeq (sIf (mTest (eOp gLt (eVar 13) (eVar 10))) (sRet (eC (.bl false))) sNext)
  (sFor (iSeq (eTup (hCons (eVar 13) (hCons (eVar 10) hNil)))) (gNm 20) (f__law_are_shifts_right_2 g__law_best g__law_ends g__law_is_bool g__law_some g__law_take g_ends g_shows_soonest g_soonest g_waits))))
def r__law_are_shifts_right_18 (g__law_best g__law_ends g__law_is_bool g__law_some g__law_take g_ends g_shows_soonest g_soonest g_waits : List D → T D) : MS := (sRet (eAnd (eOp gEq (eOp gIx (eDef g_soonest (hCons (eVar 21) hNil)) (eC (.int 0))) (eVar 10)) (eOp gEq (eOp gIx (eOp gIx (eDef g_ends (hCons (eVar 21) (hCons (eUn revD (eVar 6)) hNil))) (eUn gNeg (eC (.int 1)))) (eC (.int 1))) (eOp gIx (eOp gIx (eVar 8) (eUn gNeg (eC (.int 1)))) (eC (.int 1))))))
def r__law_are_shifts_right_17 (g__law_best g__law_ends g__law_is_bool g__law_some g__law_take g_ends g_shows_soonest g_soonest g_waits : List D → T D) : MS := (sSeq (sSet 21 (eCall (hCons (eComp [22, 23] (iSeq (eVar 3)) (gTp 2 (gsCons (gNm 22) (gsCons (gNm 23) gsNil))) mYes (eTup (hCons (eVar 23) (hCons (eVar 22) hNil)))) hNil) (g1 tupleD)))
  (r__law_are_shifts_right_18 g__law_best g__law_ends g__law_is_bool g__law_some g__law_take g_ends g_shows_soonest g_soonest g_waits))
def r__law_are_shifts_right_16 (g__law_best g__law_ends g__law_is_bool g__law_some g__law_take g_ends g_shows_soonest g_soonest g_waits : List D → T D) : MS := (sSeq (sFor (iSeq (eTup (hCons (eVar 6) (hCons (eVar 15) (hCons (eCall (hCons (eVar 16) hNil) (g1 tupleD)) hNil))))) (gNm 19) (f__law_are_shifts_right_3 g__law_best g__law_ends g__law_is_bool g__law_some g__law_take g_ends g_shows_soonest g_soonest g_waits))
  (r__law_are_shifts_right_17 g__law_best g__law_ends g__law_is_bool g__law_some g__law_take g_ends g_shows_soonest g_soonest g_waits))
def r__law_are_shifts_right_15 (g__law_best g__law_ends g__law_is_bool g__law_some g__law_take g_ends g_shows_soonest g_soonest g_waits : List D → T D) : MS := (sSeq (sSto2 16 (eVar 17) 16 (eVar 18) (eTup (hCons (eOp gIx (eVar 16) (eVar 18)) (hCons (eOp gIx (eVar 16) (eVar 17)) hNil))))
  (r__law_are_shifts_right_16 g__law_best g__law_ends g__law_is_bool g__law_some g__law_take g_ends g_shows_soonest g_soonest g_waits))
def r__law_are_shifts_right_14 (g__law_best g__law_ends g__law_is_bool g__law_some g__law_take g_ends g_shows_soonest g_soonest g_waits : List D → T D) : MS := (sSeq (sPar [17, 18] (hCons (eDef g__law_take (hCons (eVar 0) (hCons (eVar 4) hNil))) (hCons (eDef g__law_take (hCons (eVar 0) (hCons (eVar 4) hNil))) hNil)))
  (r__law_are_shifts_right_15 g__law_best g__law_ends g__law_is_bool g__law_some g__law_take g_ends g_shows_soonest g_soonest g_waits))
def r__law_are_shifts_right_13 (g__law_best g__law_ends g__law_is_bool g__law_some g__law_take g_ends g_shows_soonest g_soonest g_waits : List D → T D) : MS := (sSeq (sSet 16 (eCall (hCons (eOp gIx (eVar 9) (eC (.int 1))) hNil) (g1 listD)))
  (r__law_are_shifts_right_14 g__law_best g__law_ends g__law_is_bool g__law_some g__law_take g_ends g_shows_soonest g_soonest g_waits))
def r__law_are_shifts_right_12 (g__law_best g__law_ends g__law_is_bool g__law_some g__law_take g_ends g_shows_soonest g_soonest g_waits : List D → T D) : MS := (sSeq (sSet 15 (eCall (hCons (eFrz [17] (eComp [17] (iSeq (eDef g__law_some (hCons (eVar 0) (hCons (eRg1 mkL (eVar 4)) (hCons (eVar 4) hNil))))) (gNm 17) mYes (eCall (hCons (eVar 17) hNil) (g1 intD)))) hNil) (g1 tupleD)))
  (r__law_are_shifts_right_13 g__law_best g__law_ends g__law_is_bool g__law_some g__law_take g_ends g_shows_soonest g_soonest g_waits))
def r__law_are_shifts_right_11 (g__law_best g__law_ends g__law_is_bool g__law_some g__law_take g_ends g_shows_soonest g_soonest g_waits : List D → T D) : MS := (sSeq (sIf (mTest (eOp (gI iGt) (eVar 10) (eOp gAdd (eOp gIx (eVar 11) (eC (.int 0))) (eOp gIx (eVar 11) (eC (.int 1)))))) (sRet (eC (.bl false))) sNext)
  (r__law_are_shifts_right_12 g__law_best g__law_ends g__law_is_bool g__law_some g__law_take g_ends g_shows_soonest g_soonest g_waits))
def r__law_are_shifts_right_10 (g__law_best g__law_ends g__law_is_bool g__law_some g__law_take g_ends g_shows_soonest g_soonest g_waits : List D → T D) : MS := (sSeq (sFor (iSeq (eTup (hCons (eTup (hCons (eC (.int 0)) (hCons (eVar 1) (hCons (eVar 2) hNil)))) (hCons (eTup (hCons (eC (.int 1)) (hCons (eVar 2) (hCons (eVar 1) hNil)))) hNil)))) (gTp 3 (gsCons (gNm 12) (gsCons (gNm 13) (gsCons (gNm 14) gsNil)))) (f__law_are_shifts_right_1 g__law_best g__law_ends g__law_is_bool g__law_some g__law_take g_ends g_shows_soonest g_soonest g_waits))
  (r__law_are_shifts_right_11 g__law_best g__law_ends g__law_is_bool g__law_some g__law_take g_ends g_shows_soonest g_soonest g_waits))
def r__law_are_shifts_right_9 (g__law_best g__law_ends g__law_is_bool g__law_some g__law_take g_ends g_shows_soonest g_soonest g_waits : List D → T D) : MS := (sSeq (sSet 11 (eFrz [12] (eComp [12] (iSeq (eTup (hCons (eVar 1) (hCons (eVar 2) hNil)))) (gNm 12) mYes (eOp gIx (eDef g_soonest (hCons (eVar 12) hNil)) (eC (.int 0))))))
  (r__law_are_shifts_right_10 g__law_best g__law_ends g__law_is_bool g__law_some g__law_take g_ends g_shows_soonest g_soonest g_waits))
def r__law_are_shifts_right_8 (g__law_best g__law_ends g__law_is_bool g__law_some g__law_take g_ends g_shows_soonest g_soonest g_waits : List D → T D) : MS := (sSeq (sIf (mOr (mTest (eRep not (eOp gIx (eVar 9) (eC (.int 0))) (eVar 10))) (mTest (eOp gIsN (eDef g_shows_soonest (hCons (eVar 3) (hCons (eVar 9) hNil))) (eC (.bl true))))) (sRet (eC (.bl false))) sNext)
  (r__law_are_shifts_right_9 g__law_best g__law_ends g__law_is_bool g__law_some g__law_take g_ends g_shows_soonest g_soonest g_waits))
def r__law_are_shifts_right_7 (g__law_best g__law_ends g__law_is_bool g__law_some g__law_take g_ends g_shows_soonest g_soonest g_waits : List D → T D) : MS := (sSeq (sPar [9, 10] (hCons (eDef g_soonest (hCons (eVar 3) hNil)) (hCons (eDef g__law_best (hCons (eVar 3) hNil)) hNil)))
  (r__law_are_shifts_right_8 g__law_best g__law_ends g__law_is_bool g__law_some g__law_take g_ends g_shows_soonest g_soonest g_waits))
def r__law_are_shifts_right_6 (g__law_best g__law_ends g__law_is_bool g__law_some g__law_take g_ends g_shows_soonest g_soonest g_waits : List D → T D) : MS := (sSeq (sIf (mTest (eRep not (eDef g_waits (hCons (eVar 3) (hCons (eVar 6) hNil))) (eOp (gI iSub) (eOp gIx (eOp gIx (eVar 8) (eUn gNeg (eC (.int 1)))) (eC (.int 1))) (eCall (hCons (eComp [22, 23] (iSeq (eVar 3)) (gTp 2 (gsCons (gNm 22) (gsCons (gNm 23) gsNil))) mYes (eVar 23)) hNil) (g1 sumD))))) (sRet (eC (.bl false))) sNext)
  (r__law_are_shifts_right_7 g__law_best g__law_ends g__law_is_bool g__law_some g__law_take g_ends g_shows_soonest g_soonest g_waits))
def r__law_are_shifts_right_5 (g__law_best g__law_ends g__law_is_bool g__law_some g__law_take g_ends g_shows_soonest g_soonest g_waits : List D → T D) : MS := (sSeq (sIf (mOr (mTest (eRep not (eDef g_ends (hCons (eVar 3) (hCons (eVar 6) hNil))) (eCall (hCons (eVar 8) hNil) (g1 tupleD)))) (mTest (eRep not (eDef g_ends (hCons (eVar 1) (hCons (eCall (hCons (eOp gIx (eVar 5) (eC (.int 0))) hNil) (g1 tupleD)) hNil))) (eCall (hCons (eVar 7) hNil) (g1 tupleD))))) (sRet (eC (.bl false))) sNext)
  (r__law_are_shifts_right_6 g__law_best g__law_ends g__law_is_bool g__law_some g__law_take g_ends g_shows_soonest g_soonest g_waits))
def r__law_are_shifts_right_4 (g__law_best g__law_ends g__law_is_bool g__law_some g__law_take g_ends g_shows_soonest g_soonest g_waits : List D → T D) : MS := (sSeq (sSet 8 (eOp gAdd (eVar 7) (eDef g__law_ends (hCons (eVar 2) (hCons (eOp gIx (eVar 5) (eC (.int 1))) (hCons (eOp gIx (eVar 7) (eUn gNeg (eC (.int 1)))) hNil))))))
  (r__law_are_shifts_right_5 g__law_best g__law_ends g__law_is_bool g__law_some g__law_take g_ends g_shows_soonest g_soonest g_waits))
def r__law_are_shifts_right_3 (g__law_best g__law_ends g__law_is_bool g__law_some g__law_take g_ends g_shows_soonest g_soonest g_waits : List D → T D) : MS := (sSeq (sSet 7 (eDef g__law_ends (hCons (eVar 1) (hCons (eOp gIx (eVar 5) (eC (.int 0))) (hCons (eTup (hCons (eC (.int 0)) (hCons (eC (.int 0)) hNil))) hNil)))))
  (r__law_are_shifts_right_4 g__law_best g__law_ends g__law_is_bool g__law_some g__law_take g_ends g_shows_soonest g_soonest g_waits))
def r__law_are_shifts_right_2 (g__law_best g__law_ends g__law_is_bool g__law_some g__law_take g_ends g_shows_soonest g_soonest g_waits : List D → T D) : MS := (sSeq (sSet 6 (eCall (hCons (eOp gAdd (eOp gIx (eVar 5) (eC (.int 0))) (eFrz [17] (eComp [17] (iSeq (eOp gIx (eVar 5) (eC (.int 1)))) (gNm 17) mYes (eOp gAdd (eCall (hCons (eVar 1) hNil) (g1 lenD)) (eVar 17))))) hNil) (g1 tupleD)))
  (r__law_are_shifts_right_3 g__law_best g__law_ends g__law_is_bool g__law_some g__law_take g_ends g_shows_soonest g_soonest g_waits))
def r__law_are_shifts_right_1 (g__law_best g__law_ends g__law_is_bool g__law_some g__law_take g_ends g_shows_soonest g_soonest g_waits : List D → T D) : MS := (sSeq (sSet 5 (eFrz [12] (eComp [12] (iSeq (eTup (hCons (eVar 1) (hCons (eVar 2) hNil)))) (gNm 12) mYes (eFrz [17] (eComp [17] (iSeq (eDef g__law_some (hCons (eVar 0) (hCons (eRg1 mkL (eCall (hCons (eVar 12) hNil) (g1 lenD))) (hCons (eCall (hCons (eVar 12) hNil) (g1 lenD)) hNil))))) (gNm 17) mYes (eCall (hCons (eVar 17) hNil) (g1 intD)))))))
  (r__law_are_shifts_right_2 g__law_best g__law_ends g__law_is_bool g__law_some g__law_take g_ends g_shows_soonest g_soonest g_waits))
def b__law_are_shifts_right (g__law_best g__law_ends g__law_is_bool g__law_some g__law_take g_ends g_shows_soonest g_soonest g_waits : List D → T D) : MS := (sSeq (sPar [3, 4] (hCons (eOp gAdd (eVar 1) (eVar 2)) (hCons (eOp gAdd (eCall (hCons (eVar 1) hNil) (g1 lenD)) (eCall (hCons (eVar 2) hNil) (g1 lenD))) hNil)))
  (r__law_are_shifts_right_1 g__law_best g__law_ends g__law_is_bool g__law_some g__law_take g_ends g_shows_soonest g_soonest g_waits))
def m__law_are_shifts_right : MS := b__law_are_shifts_right g__law_best g__law_ends g__law_is_bool g__law_some g__law_take g_ends g_shows_soonest g_soonest g_waits
def g__law_are_shifts_right : List D → T D := mkFn 24 3 m__law_are_shifts_right
theorem has__law_are_shifts_right {k : Nat} (B : Bl mg)  (h__law_best : Has Pg w K mg base k "_law_best" 1 g__law_best) (h__law_ends : Has Pg w K mg base k "_law_ends" 3 g__law_ends) (h__law_is_bool : Has Pg w K mg base k "_law_is_bool" 2 g__law_is_bool) (h__law_some : Has Pg w K mg base k "_law_some" 3 g__law_some) (h__law_take : Has Pg w K mg base k "_law_take" 2 g__law_take) (h_ends : Has Pg w K mg base k "ends" 2 g_ends) (h_shows_soonest : Has Pg w K mg base k "shows_soonest" 2 g_shows_soonest) (h_soonest : Has Pg w K mg base k "soonest" 1 g_soonest) (h_waits : Has Pg w K mg base k "waits" 2 g_waits) (Dn : DefIn K mg "_law_are_shifts_right" st__law_are_shifts_right ["pot", "one", "other"]) : Has Pg w K mg base (k + 1) "_law_are_shifts_right" 3 g__law_are_shifts_right := by
  obtain ⟨f, fd, Fn, hm, hb⟩ := Dn.ex
  have sc := sc__law_are_shifts_right
  exact ⟨f, fd, _, hm, Fn.kp, hb, rfl, fn_okG Fn sc (fun cdv A outer s H Z hr => (ss_cons (s_par2 sc.nd (a_cons (m_op op_addM gAdd_ns (m_var 1) (m_var 2)) (a_cons (m_op op_addM gAdd_ns (m_fn call_lenM (g1_ns lenD_ns) B.len (by decide +kernel) (a_cons (m_var 1) a_nil)) (m_fn call_lenM (g1_ns lenD_ns) B.len (by decide +kernel) (a_cons (m_var 2) a_nil))) a_nil)) (hCons_len (hCons_len hNil_len)))
  (ss_cons (s_setLc [("part", 12)] [12] sc.nd (pi_seqM rfl (m_tup (a_cons (m_var 1) (a_cons (m_var 2) a_nil)) (hCons_len (hCons_len hNil_len)))) (blkOk_by (by kernel_rfl)) (fun _ _ _ _ _ => (g_name 12 sc.nd)) (fun _ _ _ _ _ => ts_nil) (fun _ _ _ _ _ => (m_frz [17] (m_comp [("at", 17)] sc.nd (pi_seqM rfl (m_call h__law_some hr (hCons_len (hCons_len (hCons_len hNil_len))) (a_cons (m_var 0) (a_cons (m_listRg1 B.list B.range (m_fn call_lenM (g1_ns lenD_ns) B.len (by decide +kernel) (a_cons (m_var 12) a_nil))) (a_cons (m_fn call_lenM (g1_ns lenD_ns) B.len (by decide +kernel) (a_cons (m_var 12) a_nil)) a_nil))))) (blkOk_by (by kernel_rfl)) (fun _ _ _ _ _ => (g_name 17 sc.nd)) (fun _ _ _ _ _ => ts_nil) (fun _ _ _ _ _ => (m_ty call_intM (g1_ns intD_ns) B.int (by decide +kernel) (a_cons (m_var 17) a_nil)))))))
  (ss_cons (s_set sc.nd (m_ty call_tupleM (g1_ns tupleD_ns) B.tuple (by decide +kernel) (a_cons (m_op op_addM gAdd_ns (m_ix (m_var 5) m_int) (m_frz [17] (m_comp [("at", 17)] sc.nd (pi_seqM rfl (m_ix (m_var 5) m_int)) (blkOk_by (by kernel_rfl)) (fun _ _ _ _ _ => (g_name 17 sc.nd)) (fun _ _ _ _ _ => ts_nil) (fun _ _ _ _ _ => (m_op op_addM gAdd_ns (m_fn call_lenM (g1_ns lenD_ns) B.len (by decide +kernel) (a_cons (m_var 1) a_nil)) (m_var 17)))))) a_nil)))
  (ss_cons (s_set sc.nd (m_call h__law_ends hr (hCons_len (hCons_len (hCons_len hNil_len))) (a_cons (m_var 1) (a_cons (m_ix (m_var 5) m_int) (a_cons (m_tup (a_cons m_int (a_cons m_int a_nil)) (hCons_len (hCons_len hNil_len))) a_nil)))))
  (ss_cons (s_set sc.nd (m_op op_addM gAdd_ns (m_var 7) (m_call h__law_ends hr (hCons_len (hCons_len (hCons_len hNil_len))) (a_cons (m_var 2) (a_cons (m_ix (m_var 5) m_int) (a_cons (m_ix (m_var 7) (m_un un_negM gNeg_ns m_int)) a_nil))))))
  (ss_cons (s_if (PW.pt (w_or (t_rep op_ne rep_ne B.repr hr (m_call h_ends hr (hCons_len (hCons_len hNil_len)) (a_cons (m_var 3) (a_cons (m_var 6) a_nil))) (m_ty call_tupleM (g1_ns tupleD_ns) B.tuple (by decide +kernel) (a_cons (m_var 8) a_nil)) (nomark _)) (w_one' (t_rep op_ne rep_ne B.repr hr (m_call h_ends hr (hCons_len (hCons_len hNil_len)) (a_cons (m_var 1) (a_cons (m_ty call_tupleM (g1_ns tupleD_ns) B.tuple (by decide +kernel) (a_cons (m_ix (m_var 5) m_int) a_nil)) a_nil))) (m_ty call_tupleM (g1_ns tupleD_ns) B.tuple (by decide +kernel) (a_cons (m_var 7) a_nil)) (nomark _))))) (ss_one (s_ret m_bl)) ss_nil)
  (ss_cons (s_if (t_rep op_ne rep_ne B.repr hr (m_call h_waits hr (hCons_len (hCons_len hNil_len)) (a_cons (m_var 3) (a_cons (m_var 6) a_nil))) (m_op op_subM gI_ns (m_ix (m_ix (m_var 8) (m_un un_negM gNeg_ns m_int)) m_int) (m_fn (call_sumM rfl) (g1_ns sumD_ns) B.sum (by decide +kernel) (a_cons (m_comp [("wash", 22), ("wring", 23)] sc.nd (pi_seqM rfl (m_var 3)) (blkOk_by (by kernel_rfl)) (fun _ _ _ _ _ => (g_tup (gs_cons (g_name 22 sc.nd) (gs_cons (g_name 23 sc.nd) gs_nil)))) (fun _ _ _ _ _ => ts_nil) (fun _ _ _ _ _ => (m_var 23))) a_nil))) (nomark _)) (ss_one (s_ret m_bl)) ss_nil)
  (ss_cons (s_par2 sc.nd (a_cons (m_call h_soonest hr (hCons_len hNil_len) (a_cons (m_var 3) a_nil)) (a_cons (m_call h__law_best hr (hCons_len hNil_len) (a_cons (m_var 3) a_nil)) a_nil)) (hCons_len (hCons_len hNil_len)))
  (ss_cons (s_if (PW.pt (w_or (t_rep op_ne rep_ne B.repr hr (m_ix (m_var 9) m_int) (m_var 10) (nomark _)) (w_one' (t_cmp op_isnM gIsN_ns (m_call h_shows_soonest hr (hCons_len (hCons_len hNil_len)) (a_cons (m_var 3) (a_cons (m_var 9) a_nil))) m_bl (nomark _))))) (ss_one (s_ret m_bl)) ss_nil)
  (ss_cons (s_setLc [("part", 12)] [12] sc.nd (pi_seqM rfl (m_tup (a_cons (m_var 1) (a_cons (m_var 2) a_nil)) (hCons_len (hCons_len hNil_len)))) (blkOk_by (by kernel_rfl)) (fun _ _ _ _ _ => (g_name 12 sc.nd)) (fun _ _ _ _ _ => ts_nil) (fun _ _ _ _ _ => (m_ix (m_call h_soonest hr (hCons_len hNil_len) (a_cons (m_var 12) a_nil)) m_int)))
  (ss_cons (s_for (g_tup (gs_cons (g_name 12 sc.nd) (gs_cons (g_name 13 sc.nd) (gs_cons (g_name 14 sc.nd) gs_nil)))) (pi_seqM rfl (m_tup (a_cons (m_tup (a_cons m_int (a_cons (m_var 1) (a_cons (m_var 2) a_nil))) (hCons_len (hCons_len (hCons_len hNil_len)))) (a_cons (m_tup (a_cons m_int (a_cons (m_var 2) (a_cons (m_var 1) a_nil))) (hCons_len (hCons_len (hCons_len hNil_len)))) a_nil)) (hCons_len (hCons_len hNil_len)))) (ss_cons (s_if (PW.pt (w_or (t_cmp (r_ne hr) gNe_ns (m_ix (m_var 11) (m_var 12)) (m_call h__law_best hr (hCons_len hNil_len) (a_cons (m_var 13) a_nil)) (nomark _)) (w_one' (t_cmp (r_lt hr) gLt_ns (m_var 10) (m_ix (m_var 11) (m_var 12)) (nomark _))))) (ss_one (s_ret m_bl)) ss_nil)
  (ss_cons (s_if (t_cmp (r_lt hr) gLt_ns (m_var 10) (m_op op_addM gAdd_ns (m_fn (call_sumM rfl) (g1_ns sumD_ns) B.sum (by decide +kernel) (a_cons (m_comp [("wash", 22), ("wring", 23)] sc.nd (pi_seqM rfl (m_var 3)) (blkOk_by (by kernel_rfl)) (fun _ _ _ _ _ => (g_tup (gs_cons (g_name 22 sc.nd) (gs_cons (g_name 23 sc.nd) gs_nil)))) (fun _ _ _ _ _ => ts_nil) (fun _ _ _ _ _ => (m_var 22))) a_nil)) (m_fn (r_min hr rfl) (g1_ns minD_ns) B.min (by decide +kernel) (a_cons (m_comp [("wash", 22), ("wring", 23)] sc.nd (pi_seqM rfl (m_var 3)) (blkOk_by (by kernel_rfl)) (fun _ _ _ _ _ => (g_tup (gs_cons (g_name 22 sc.nd) (gs_cons (g_name 23 sc.nd) gs_nil)))) (fun _ _ _ _ _ => ts_nil) (fun _ _ _ _ _ => (m_var 23))) a_nil))) (nomark _)) (ss_one (s_ret m_bl)) ss_nil)
  (ss_one (s_if (t_cmp (r_lt hr) gLt_ns (m_var 10) (m_op op_addM gAdd_ns (m_fn (call_sumM rfl) (g1_ns sumD_ns) B.sum (by decide +kernel) (a_cons (m_comp [("wash", 22), ("wring", 23)] sc.nd (pi_seqM rfl (m_var 3)) (blkOk_by (by kernel_rfl)) (fun _ _ _ _ _ => (g_tup (gs_cons (g_name 22 sc.nd) (gs_cons (g_name 23 sc.nd) gs_nil)))) (fun _ _ _ _ _ => ts_nil) (fun _ _ _ _ _ => (m_var 23))) a_nil)) (m_fn (r_min hr rfl) (g1_ns minD_ns) B.min (by decide +kernel) (a_cons (m_comp [("wash", 22), ("wring", 23)] sc.nd (pi_seqM rfl (m_var 3)) (blkOk_by (by kernel_rfl)) (fun _ _ _ _ _ => (g_tup (gs_cons (g_name 22 sc.nd) (gs_cons (g_name 23 sc.nd) gs_nil)))) (fun _ _ _ _ _ => ts_nil) (fun _ _ _ _ _ => (m_var 22))) a_nil))) (nomark _)) (ss_one (s_ret m_bl)) ss_nil)))))
  (ss_cons (s_if (t_cmp op_gtM gI_ns (m_var 10) (m_op op_addM gAdd_ns (m_ix (m_var 11) m_int) (m_ix (m_var 11) m_int)) (nomark _)) (ss_one (s_ret m_bl)) ss_nil)
  (ss_cons (s_set sc.nd (m_ty call_tupleM (g1_ns tupleD_ns) B.tuple (by decide +kernel) (a_cons (m_frz [17] (m_comp [("at", 17)] sc.nd (pi_seqM rfl (m_call h__law_some hr (hCons_len (hCons_len (hCons_len hNil_len))) (a_cons (m_var 0) (a_cons (m_listRg1 B.list B.range (m_var 4)) (a_cons (m_var 4) a_nil))))) (blkOk_by (by kernel_rfl)) (fun _ _ _ _ _ => (g_name 17 sc.nd)) (fun _ _ _ _ _ => ts_nil) (fun _ _ _ _ _ => (m_ty call_intM (g1_ns intD_ns) B.int (by decide +kernel) (a_cons (m_var 17) a_nil))))) a_nil)))
  (ss_cons (s_set sc.nd (m_ty call_listM (g1_ns listD_ns) B.list (by decide +kernel) (a_cons (m_ix (m_var 9) m_int) a_nil)))
  (ss_cons (s_par2 sc.nd (a_cons (m_call h__law_take hr (hCons_len (hCons_len hNil_len)) (a_cons (m_var 0) (a_cons (m_var 4) a_nil))) (a_cons (m_call h__law_take hr (hCons_len (hCons_len hNil_len)) (a_cons (m_var 0) (a_cons (m_var 4) a_nil))) a_nil)) (hCons_len (hCons_len hNil_len)))
  (ss_cons (s_sto2 (pv 16) (m_var 17) (pv 16) (m_var 18) (m_tup (a_cons (m_ix (m_var 16) (m_var 18)) (a_cons (m_ix (m_var 16) (m_var 17)) a_nil)) (hCons_len (hCons_len hNil_len))))
  (ss_cons (s_for (g_name 19 sc.nd) (pi_seqM rfl (m_tup (a_cons (m_var 6) (a_cons (m_var 15) (a_cons (m_ty call_tupleM (g1_ns tupleD_ns) B.tuple (by decide +kernel) (a_cons (m_var 16) a_nil)) a_nil))) (hCons_len (hCons_len (hCons_len hNil_len))))) (ss_cons (s_set sc.nd (m_ix (m_ix (m_call h__law_ends hr (hCons_len (hCons_len (hCons_len hNil_len))) (a_cons (m_var 3) (a_cons (m_var 19) (a_cons (m_tup (a_cons m_int (a_cons m_int a_nil)) (hCons_len (hCons_len hNil_len))) a_nil)))) (m_un un_negM gNeg_ns m_int)) m_int))
  (ss_cons (s_if (t_cmp (r_lt hr) gLt_ns (m_var 13) (m_var 10) (nomark _)) (ss_one (s_ret m_bl)) ss_nil)
  (ss_one (s_for (g_name 20 sc.nd) (pi_seqM rfl (m_tup (a_cons (m_var 13) (a_cons (m_var 10) a_nil)) (hCons_len (hCons_len hNil_len)))) (ss_one (s_if (t_not (t_val (m_call h__law_is_bool hr (hCons_len (hCons_len hNil_len)) (a_cons (m_call h_shows_soonest hr (hCons_len (hCons_len hNil_len)) (a_cons (m_var 3) (a_cons (m_tup (a_cons (m_var 20) (a_cons (m_var 19) a_nil)) (hCons_len (hCons_len hNil_len))) a_nil))) (a_cons (m_chain (r_eq hr) gEq_ns (r_eq hr) gEq_ns (m_var 20) (m_var 13) (m_var 10)) a_nil))))) (ss_one (s_ret m_bl)) ss_nil)))))))
  (ss_cons (s_set sc.nd (m_ty call_tupleM (g1_ns tupleD_ns) B.tuple (by decide +kernel) (a_cons (m_comp [("wash", 22), ("wring", 23)] sc.nd (pi_seqM rfl (m_var 3)) (blkOk_by (by kernel_rfl)) (fun _ _ _ _ _ => (g_tup (gs_cons (g_name 22 sc.nd) (gs_cons (g_name 23 sc.nd) gs_nil)))) (fun _ _ _ _ _ => ts_nil) (fun _ _ _ _ _ => (m_tup (a_cons (m_var 23) (a_cons (m_var 22) a_nil)) (hCons_len (hCons_len hNil_len))))) a_nil)))
  (ss_one (s_ret (m_and (m_cmp (r_eq hr) gEq_ns (m_ix (m_call h_soonest hr (hCons_len hNil_len) (a_cons (m_var 21) a_nil)) m_int) (m_var 10) (nomark _)) (m_one (m_cmp (r_eq hr) gEq_ns (m_ix (m_ix (m_call h_ends hr (hCons_len (hCons_len hNil_len)) (a_cons (m_var 21) (a_cons (pe_revM (m_var 6)) a_nil))) (m_un un_negM gNeg_ns m_int)) m_int) (m_ix (m_ix (m_var 8) (m_un un_negM gNeg_ns m_int)) m_int) (nomark _)))))))))))))))))))))))))⟩
abbrev st__law_are_three_right : Stmt := topS 38
theorem sc__law_are_three_right : FnScope ["pot", "many", "jobs", "rows", "lap", "longer", "row", "due", "told", "sums", "first", "last", "order", "middle", "is_sure", "at", "wash", "wring", "iron", "one", "other", "time", "job"] ["pot"] (defScope st__law_are_three_right) := ⟨rfl, rfl, rfl, by decide +kernel, rfl, by decide +kernel, by decide +kernel⟩
def f__law_are_three_right_1 (g__law_ends g__law_jobs g__law_of g_middle_rule g_soonest_three : List D → T D) : MS := (sDrop (eMut gExtend 5 (hCons (eComp [15] (iRng (hCons (eVar 1) hNil)) (gNm 15) (mTest (eOp gNi (eVar 15) (eVar 6))) (eOp gAdd (eVar 6) (eTup (hCons (eVar 15) hNil)))) hNil)))
def f__law_are_three_right_2 (g__law_ends g__law_jobs g__law_of g_middle_rule g_soonest_three : List D → T D) : MS := (sSeq (sSet 5 (eLst hNil))
  (sSeq (sFor (iSeq (eVar 3)) (gNm 6) (f__law_are_three_right_1 g__law_ends g__law_jobs g__law_of g_middle_rule g_soonest_three))
  (sSet 3 (eVar 5))))
def r__law_are_three_right_13 (g__law_ends g__law_jobs g__law_of g_middle_rule g_soonest_three : List D → T D) : MS := (sRet (eAnd (eOp (gI iGe) (eOp gIx (eVar 8) (eC (.int 0))) (eOp gIx (eVar 7) (eC (.int 0)))) (eOr (eNotV (eVar 14)) (eOp gEq (eOp gIx (eVar 8) (eC (.int 0))) (eOp gIx (eVar 7) (eC (.int 0)))))))
def r__law_are_three_right_12 (g__law_ends g__law_jobs g__law_of g_middle_rule g_soonest_three : List D → T D) : MS := (sSeq (sIf (mTest (eRep not (eVar 8) (eTup (hCons (eOp gIx (eOp gIx (eDef g__law_ends (hCons (eVar 2) (hCons (eVar 12) (hCons (eTup (hCons (eC (.int 0)) (hCons (eC (.int 0)) (hCons (eC (.int 0)) hNil)))) hNil)))) (eUn gNeg (eC (.int 1)))) (eC (.int 2))) (hCons (eVar 12) (hCons (eVar 14) hNil)))))) (sRet (eC (.bl false))) sNext)
  (r__law_are_three_right_13 g__law_ends g__law_jobs g__law_of g_middle_rule g_soonest_three))
def r__law_are_three_right_11 (g__law_ends g__law_jobs g__law_of g_middle_rule g_soonest_three : List D → T D) : MS := (sSeq (sSet 14 (eOr (eOp (gI iGe) (eCall (hCons (eComp [22] (iSeq (eVar 2)) (gNm 22) mYes (eOp gIx (eVar 22) (eC (.int 0)))) hNil) (g1 minD)) (eVar 13)) (eOp (gI iGe) (eCall (hCons (eComp [22] (iSeq (eVar 2)) (gNm 22) mYes (eOp gIx (eVar 22) (eC (.int 2)))) hNil) (g1 minD)) (eVar 13))))
  (r__law_are_three_right_12 g__law_ends g__law_jobs g__law_of g_middle_rule g_soonest_three))
def r__law_are_three_right_10 (g__law_ends g__law_jobs g__law_of g_middle_rule g_soonest_three : List D → T D) : MS := (sSeq (sSet 13 (eCall (hCons (eComp [22] (iSeq (eVar 2)) (gNm 22) mYes (eOp gIx (eVar 22) (eC (.int 1)))) hNil) (g1 maxD)))
  (r__law_are_three_right_11 g__law_ends g__law_jobs g__law_of g_middle_rule g_soonest_three))
def r__law_are_three_right_9 (g__law_ends g__law_jobs g__law_of g_middle_rule g_soonest_three : List D → T D) : MS := (sSeq (sSet 12 (eCall (hCons (eComp [21, 15] (iSeq (eOp gAdd (eVar 10) (eVar 11))) (gTp 2 (gsCons (gNm 21) (gsCons (gNm 15) gsNil))) mYes (eVar 15)) hNil) (g1 tupleD)))
  (r__law_are_three_right_10 g__law_ends g__law_jobs g__law_of g_middle_rule g_soonest_three))
def r__law_are_three_right_8 (g__law_ends g__law_jobs g__law_of g_middle_rule g_soonest_three : List D → T D) : MS := (sSeq (sSet 11 (eCall (hCons (eComp [15, 19, 20] (iEnumM (hCons (eVar 9) hNil)) (gTp 2 (gsCons (gNm 15) (gsCons (gTp 2 (gsCons (gNm 19) (gsCons (gNm 20) gsNil))) gsNil))) (mTest (eOp (gI iGt) (eVar 19) (eVar 20))) (eTup (hCons (eUn gNeg (eVar 20)) (hCons (eVar 15) hNil)))) hNil) (g1 sortedD)))
  (r__law_are_three_right_9 g__law_ends g__law_jobs g__law_of g_middle_rule g_soonest_three))
def r__law_are_three_right_7 (g__law_ends g__law_jobs g__law_of g_middle_rule g_soonest_three : List D → T D) : MS := (sSeq (sSet 10 (eCall (hCons (eComp [15, 19, 20] (iEnumM (hCons (eVar 9) hNil)) (gTp 2 (gsCons (gNm 15) (gsCons (gTp 2 (gsCons (gNm 19) (gsCons (gNm 20) gsNil))) gsNil))) (mTest (eOp (gI iLe) (eVar 19) (eVar 20))) (eTup (hCons (eVar 19) (hCons (eVar 15) hNil)))) hNil) (g1 sortedD)))
  (r__law_are_three_right_8 g__law_ends g__law_jobs g__law_of g_middle_rule g_soonest_three))
def r__law_are_three_right_6 (g__law_ends g__law_jobs g__law_of g_middle_rule g_soonest_three : List D → T D) : MS := (sSeq (sSet 9 (eFrz [] (eComp [16, 17, 18] (iSeq (eVar 2)) (gTp 3 (gsCons (gNm 16) (gsCons (gNm 17) (gsCons (gNm 18) gsNil)))) mYes (eTup (hCons (eOp gAdd (eVar 16) (eVar 17)) (hCons (eOp gAdd (eVar 17) (eVar 18)) hNil))))))
  (r__law_are_three_right_7 g__law_ends g__law_jobs g__law_of g_middle_rule g_soonest_three))
def r__law_are_three_right_5 (g__law_ends g__law_jobs g__law_of g_middle_rule g_soonest_three : List D → T D) : MS := (sSeq (sSet 8 (eDef g_middle_rule (hCons (eVar 2) hNil)))
  (r__law_are_three_right_6 g__law_ends g__law_jobs g__law_of g_middle_rule g_soonest_three))
def r__law_are_three_right_4 (g__law_ends g__law_jobs g__law_of g_middle_rule g_soonest_three : List D → T D) : MS := (sSeq (sIf (mTest (eRep not (eDef g_soonest_three (hCons (eVar 2) hNil)) (eVar 7))) (sRet (eC (.bl false))) sNext)
  (r__law_are_three_right_5 g__law_ends g__law_jobs g__law_of g_middle_rule g_soonest_three))
def r__law_are_three_right_3 (g__law_ends g__law_jobs g__law_of g_middle_rule g_soonest_three : List D → T D) : MS := (sSeq (sSet 7 (eCall (hCons (eFrz [6] (eComp [6] (iSeq (eVar 3)) (gNm 6) mYes (eTup (hCons (eOp gIx (eOp gIx (eDef g__law_ends (hCons (eVar 2) (hCons (eVar 6) (hCons (eTup (hCons (eC (.int 0)) (hCons (eC (.int 0)) (hCons (eC (.int 0)) hNil)))) hNil)))) (eUn gNeg (eC (.int 1)))) (eC (.int 2))) (hCons (eVar 6) hNil))))) hNil) (g1 minD)))
  (r__law_are_three_right_4 g__law_ends g__law_jobs g__law_of g_middle_rule g_soonest_three))
def r__law_are_three_right_2 (g__law_ends g__law_jobs g__law_of g_middle_rule g_soonest_three : List D → T D) : MS := (sSeq (sFor (iRng (hCons (eVar 1) hNil)) (gNm 4) (f__law_are_three_right_2 g__law_ends g__law_jobs g__law_of g_middle_rule g_soonest_three))
  (r__law_are_three_right_3 g__law_ends g__law_jobs g__law_of g_middle_rule g_soonest_three))
def r__law_are_three_right_1 (g__law_ends g__law_jobs g__law_of g_middle_rule g_soonest_three : List D → T D) : MS := (sSeq (sPar [2, 3] (hCons (eDef g__law_jobs (hCons (eVar 0) (hCons (eVar 1) (hCons (eC (.int 3)) hNil)))) (hCons (eLst (hCons (eTup hNil) hNil)) hNil)))
  (r__law_are_three_right_2 g__law_ends g__law_jobs g__law_of g_middle_rule g_soonest_three))
def b__law_are_three_right (g__law_ends g__law_jobs g__law_of g_middle_rule g_soonest_three : List D → T D) : MS := (sSeq (sSet 1 (eDef g__law_of (hCons (eVar 0) (hCons (eLst (hCons (eC (.int 1)) (hCons (eC (.int 4)) (hCons (eC (.int 5)) (hCons (eC (.int 6)) hNil))))) hNil))))
  (r__law_are_three_right_1 g__law_ends g__law_jobs g__law_of g_middle_rule g_soonest_three))
def m__law_are_three_right : MS := b__law_are_three_right g__law_ends g__law_jobs g__law_of g_middle_rule g_soonest_three
def g__law_are_three_right : List D → T D := mkFn 23 1 m__law_are_three_right
theorem has__law_are_three_right {k : Nat} (B : Bl mg)  (h__law_ends : Has Pg w K mg base k "_law_ends" 3 g__law_ends) (h__law_jobs : Has Pg w K mg base k "_law_jobs" 3 g__law_jobs) (h__law_of : Has Pg w K mg base k "_law_of" 2 g__law_of) (h_middle_rule : Has Pg w K mg base k "middle_rule" 1 g_middle_rule) (h_soonest_three : Has Pg w K mg base k "soonest_three" 1 g_soonest_three) (Dn : DefIn K mg "_law_are_three_right" st__law_are_three_right ["pot"]) : Has Pg w K mg base (k + 1) "_law_are_three_right" 1 g__law_are_three_right := by
  obtain ⟨f, fd, Fn, hm, hb⟩ := Dn.ex
  have sc := sc__law_are_three_right
  exact ⟨f, fd, _, hm, Fn.kp, hb, rfl, fn_okG Fn sc (fun cdv A outer s H Z hr => (ss_cons (s_set sc.nd (m_call h__law_of hr (hCons_len (hCons_len hNil_len)) (a_cons (m_var 0) (a_cons (m_lst (a_cons m_int (a_cons m_int (a_cons m_int (a_cons m_int a_nil)))) (hCons_len (hCons_len (hCons_len (hCons_len hNil_len))))) a_nil))))
  (ss_cons (s_parT (pn_cons 2 sc.nd (pn_cons 3 sc.nd pn_nil)) (a_cons (m_call h__law_jobs hr (hCons_len (hCons_len (hCons_len hNil_len))) (a_cons (m_var 0) (a_cons (m_var 1) (a_cons m_int a_nil)))) (a_cons (m_lst (a_cons (m_tup a_nil hNil_len) a_nil) (hCons_len hNil_len)) a_nil)) (hCons_len (hCons_len hNil_len)))
  (ss_cons (s_for (g_name 4 sc.nd) (pi_rng1M rfl (by rfl) B.range (a_cons (m_var 1) a_nil) (hCons_len hNil_len)) (ss_cons (s_set sc.nd (m_lst a_nil hNil_len))
  (ss_cons (s_for (g_name 6 sc.nd) (pi_seqM rfl (m_var 3)) (ss_one (s_expr (m_mut op_extend mt_extend PySem.F.slot_list_extend PySem.F.type_list_extend (pv 5) (a_cons (m_comp [("at", 15)] sc.nd (pi_rng1M rfl (by rfl) B.range (a_cons (m_var 1) a_nil) (hCons_len hNil_len)) (blkOk_by (by kernel_rfl)) (fun _ _ _ _ _ => (g_name 15 sc.nd)) (fun _ _ _ _ _ => (ts_one (t_cmp (r_ni hr) gNi_ns (m_var 15) (m_var 6) (by with_unfolding_all rfl)))) (fun _ _ _ _ _ => (m_op op_addM gAdd_ns (m_var 6) (m_tup (a_cons (m_var 15) a_nil) (hCons_len hNil_len))))) a_nil)))))
  (ss_one (s_set sc.nd (m_var 5))))))
  (ss_cons (s_set sc.nd (m_fn (r_min hr rfl) (g1_ns minD_ns) B.min (by decide +kernel) (a_cons (m_frz [6] (m_comp [("row", 6)] sc.nd (pi_seqM rfl (m_var 3)) (blkOk_by (by kernel_rfl)) (fun _ _ _ _ _ => (g_name 6 sc.nd)) (fun _ _ _ _ _ => ts_nil) (fun _ _ _ _ _ => (m_tup (a_cons (m_ix (m_ix (m_call h__law_ends hr (hCons_len (hCons_len (hCons_len hNil_len))) (a_cons (m_var 2) (a_cons (m_var 6) (a_cons (m_tup (a_cons m_int (a_cons m_int (a_cons m_int a_nil))) (hCons_len (hCons_len (hCons_len hNil_len)))) a_nil)))) (m_un un_negM gNeg_ns m_int)) m_int) (a_cons (m_var 6) a_nil)) (hCons_len (hCons_len hNil_len)))))) a_nil)))
  (ss_cons (s_if (t_rep op_ne rep_ne B.repr hr (m_call h_soonest_three hr (hCons_len hNil_len) (a_cons (m_var 2) a_nil)) (m_var 7) (nomark _)) (ss_one (s_ret m_bl)) ss_nil)
  (ss_cons (s_set sc.nd (m_call h_middle_rule hr (hCons_len hNil_len) (a_cons (m_var 2) a_nil)))
  (ss_cons (s_setLc [("wash", 16), ("wring", 17), ("iron", 18)] [] sc.nd (pi_seqM rfl (m_var 2)) (blkOk_by (by kernel_rfl)) (fun _ _ _ _ _ => (g_tup (gs_cons (g_name 16 sc.nd) (gs_cons (g_name 17 sc.nd) (gs_cons (g_name 18 sc.nd) gs_nil))))) (fun _ _ _ _ _ => ts_nil) (fun _ _ _ _ _ => (m_tup (a_cons (m_op op_addM gAdd_ns (m_var 16) (m_var 17)) (a_cons (m_op op_addM gAdd_ns (m_var 17) (m_var 18)) a_nil)) (hCons_len (hCons_len hNil_len)))))
  (ss_cons (s_set sc.nd (m_fn (r_sorted hr) (g1_ns sortedD_ns) B.sorted (by decide +kernel) (a_cons (m_comp [("at", 15), ("one", 19), ("other", 20)] sc.nd (pi_enumM rfl (by rfl) B.enumerate (a_cons (m_var 9) a_nil)) (blkOk_by (by kernel_rfl)) (fun _ _ _ _ _ => (g_tup (gs_cons (g_name 15 sc.nd) (gs_cons (g_tup (gs_cons (g_name 19 sc.nd) (gs_cons (g_name 20 sc.nd) gs_nil))) gs_nil)))) (fun _ _ _ _ _ => (ts_one (t_cmp op_leM gI_ns (m_var 19) (m_var 20) (nomark _)))) (fun _ _ _ _ _ => (m_tup (a_cons (m_var 19) (a_cons (m_var 15) a_nil)) (hCons_len (hCons_len hNil_len))))) a_nil)))
  (ss_cons (s_set sc.nd (m_fn (r_sorted hr) (g1_ns sortedD_ns) B.sorted (by decide +kernel) (a_cons (m_comp [("at", 15), ("one", 19), ("other", 20)] sc.nd (pi_enumM rfl (by rfl) B.enumerate (a_cons (m_var 9) a_nil)) (blkOk_by (by kernel_rfl)) (fun _ _ _ _ _ => (g_tup (gs_cons (g_name 15 sc.nd) (gs_cons (g_tup (gs_cons (g_name 19 sc.nd) (gs_cons (g_name 20 sc.nd) gs_nil))) gs_nil)))) (fun _ _ _ _ _ => (ts_one (t_cmp op_gtM gI_ns (m_var 19) (m_var 20) (nomark _)))) (fun _ _ _ _ _ => (m_tup (a_cons (m_un un_negM gNeg_ns (m_var 20)) (a_cons (m_var 15) a_nil)) (hCons_len (hCons_len hNil_len))))) a_nil)))
  (ss_cons (s_set sc.nd (m_ty call_tupleM (g1_ns tupleD_ns) B.tuple (by decide +kernel) (a_cons (m_comp [("time", 21), ("at", 15)] sc.nd (pi_seqM rfl (m_op op_addM gAdd_ns (m_var 10) (m_var 11))) (blkOk_by (by kernel_rfl)) (fun _ _ _ _ _ => (g_tup (gs_cons (g_name 21 sc.nd) (gs_cons (g_name 15 sc.nd) gs_nil)))) (fun _ _ _ _ _ => ts_nil) (fun _ _ _ _ _ => (m_var 15))) a_nil)))
  (ss_cons (s_set sc.nd (m_fn (call_maxM rfl) (g1_ns maxD_ns) B.max (by decide +kernel) (a_cons (m_comp [("job", 22)] sc.nd (pi_seqM rfl (m_var 2)) (blkOk_by (by kernel_rfl)) (fun _ _ _ _ _ => (g_name 22 sc.nd)) (fun _ _ _ _ _ => ts_nil) (fun _ _ _ _ _ => (m_ix (m_var 22) m_int))) a_nil)))
  (ss_cons (s_set sc.nd (m_or (m_cmp op_geM gI_ns (m_fn (r_min hr rfl) (g1_ns minD_ns) B.min (by decide +kernel) (a_cons (m_comp [("job", 22)] sc.nd (pi_seqM rfl (m_var 2)) (blkOk_by (by kernel_rfl)) (fun _ _ _ _ _ => (g_name 22 sc.nd)) (fun _ _ _ _ _ => ts_nil) (fun _ _ _ _ _ => (m_ix (m_var 22) m_int))) a_nil)) (m_var 13) (nomark _)) (m_one (m_cmp op_geM gI_ns (m_fn (r_min hr rfl) (g1_ns minD_ns) B.min (by decide +kernel) (a_cons (m_comp [("job", 22)] sc.nd (pi_seqM rfl (m_var 2)) (blkOk_by (by kernel_rfl)) (fun _ _ _ _ _ => (g_name 22 sc.nd)) (fun _ _ _ _ _ => ts_nil) (fun _ _ _ _ _ => (m_ix (m_var 22) m_int))) a_nil)) (m_var 13) (nomark _)))))
  (ss_cons (s_if (t_rep op_ne rep_ne B.repr hr (m_var 8) (m_tup (a_cons (m_ix (m_ix (m_call h__law_ends hr (hCons_len (hCons_len (hCons_len hNil_len))) (a_cons (m_var 2) (a_cons (m_var 12) (a_cons (m_tup (a_cons m_int (a_cons m_int (a_cons m_int a_nil))) (hCons_len (hCons_len (hCons_len hNil_len)))) a_nil)))) (m_un un_negM gNeg_ns m_int)) m_int) (a_cons (m_var 12) (a_cons (m_var 14) a_nil))) (hCons_len (hCons_len (hCons_len hNil_len)))) (nomark _)) (ss_one (s_ret m_bl)) ss_nil)
  (ss_one (s_ret (m_and (m_cmp op_geM gI_ns (m_ix (m_var 8) m_int) (m_ix (m_var 7) m_int) (nomark _)) (m_one (m_or (m_not (m_var 14)) (m_one (m_cmp (r_eq hr) gEq_ns (m_ix (m_var 8) m_int) (m_ix (m_var 7) m_int) (nomark _))))))))))))))))))))))⟩
abbrev st_law : Stmt := topS 39
theorem sc_law : FnScope ["script", "place", "pot", "lap", "one", "other"] ["script"] (defScope st_law) := ⟨rfl, rfl, rfl, by decide +kernel, rfl, by decide +kernel, by decide +kernel⟩
def f_law_1 (g__law_are_shifts_right g__law_are_three_right g__law_cells g__law_jobs g__law_pot g__law_take : List D → T D) : MS := (sSeq (sPar [4, 5] (hCons (eDef g__law_jobs (hCons (eVar 2) (hCons (eOp gAdd (eC (.int 1)) (eDef g__law_take (hCons (eVar 2) (hCons (eC (.int 10)) hNil)))) (hCons (eC (.int 2)) hNil)))) (hCons (eDef g__law_jobs (hCons (eVar 2) (hCons (eOp gAdd (eC (.int 1)) (eDef g__law_take (hCons (eVar 2) (hCons (eC (.int 10)) hNil)))) (hCons (eC (.int 2)) hNil)))) hNil)))
  (sIf (mOr (mNot (mTest (eDef g__law_are_shifts_right (hCons (eVar 2) (hCons (eVar 4) (hCons (eVar 5) hNil)))))) (mNot (mTest (eDef g__law_are_three_right (hCons (eVar 2) hNil))))) (sRet (eC (.bl false))) sNext))
def f_law_2 (g__law_are_shifts_right g__law_are_three_right g__law_cells g__law_jobs g__law_pot g__law_take : List D → T D) : MS := (sSeq (sSet 2 (eDef g__law_pot (hCons (eVar 0) (hCons (eVar 1) hNil))))
  (sFor (iRng (hCons (eC (.int 2)) hNil)) (gNm 3) (f_law_1 g__law_are_shifts_right g__law_are_three_right g__law_cells g__law_jobs g__law_pot g__law_take)))
def b_law (g__law_are_shifts_right g__law_are_three_right g__law_cells g__law_jobs g__law_pot g__law_take : List D → T D) : MS := (sSeq (sFor (iSeq (eDef g__law_cells (hCons (eVar 0) (hCons (eC (.int 3)) hNil)))) (gNm 1) (f_law_2 g__law_are_shifts_right g__law_are_three_right g__law_cells g__law_jobs g__law_pot g__law_take))
  (sRet (eC (.bl true))))
def m_law : MS := b_law g__law_are_shifts_right g__law_are_three_right g__law_cells g__law_jobs g__law_pot g__law_take
def g_law : List D → T D := mkFn 6 1 m_law
theorem fn_law {k : Nat} {f : Addr} {fd : FuncData} (B : Bl mg)  (h__law_are_shifts_right : Has Pg w K mg base k "_law_are_shifts_right" 3 g__law_are_shifts_right) (h__law_are_three_right : Has Pg w K mg base k "_law_are_three_right" 1 g__law_are_three_right) (h__law_cells : Has Pg w K mg base k "_law_cells" 2 g__law_cells) (h__law_jobs : Has Pg w K mg base k "_law_jobs" 3 g__law_jobs) (h__law_pot : Has Pg w K mg base k "_law_pot" 2 g__law_pot) (h__law_take : Has Pg w K mg base k "_law_take" 2 g__law_take) (Fn : Fun K "law" "law" st_law f fd) : FnG Pg w K mg base (k + 1) f fd ["script"] (spM K g_law 1) := by
  have sc := sc_law
  exact fn_okG Fn sc (fun cdv A outer s H Z hr => (ss_cons (s_for (g_name 1 sc.nd) (pi_seqM rfl (m_call h__law_cells hr (hCons_len (hCons_len hNil_len)) (a_cons (m_var 0) (a_cons m_int a_nil)))) (ss_cons (s_set sc.nd (m_call h__law_pot hr (hCons_len (hCons_len hNil_len)) (a_cons (m_var 0) (a_cons (m_var 1) a_nil))))
  (ss_one (s_for (g_name 3 sc.nd) (pi_rng1M rfl (by rfl) B.range (a_cons m_int a_nil) (hCons_len hNil_len)) (ss_cons (s_par2 sc.nd (a_cons (m_call h__law_jobs hr (hCons_len (hCons_len (hCons_len hNil_len))) (a_cons (m_var 2) (a_cons (m_op op_addM gAdd_ns m_int (m_call h__law_take hr (hCons_len (hCons_len hNil_len)) (a_cons (m_var 2) (a_cons m_int a_nil)))) (a_cons m_int a_nil)))) (a_cons (m_call h__law_jobs hr (hCons_len (hCons_len (hCons_len hNil_len))) (a_cons (m_var 2) (a_cons (m_op op_addM gAdd_ns m_int (m_call h__law_take hr (hCons_len (hCons_len hNil_len)) (a_cons (m_var 2) (a_cons m_int a_nil)))) (a_cons m_int a_nil)))) a_nil)) (hCons_len (hCons_len hNil_len)))
  (ss_one (s_if (PW.pt (w_or (t_not (t_val (m_call h__law_are_shifts_right hr (hCons_len (hCons_len (hCons_len hNil_len))) (a_cons (m_var 2) (a_cons (m_var 4) (a_cons (m_var 5) a_nil)))))) (w_one' (t_not (t_val (m_call h__law_are_three_right hr (hCons_len hNil_len) (a_cons (m_var 2) a_nil))))))) (ss_one (s_ret m_bl)) ss_nil)))))))
  (ss_one (s_ret m_bl))))
end Mi.K19
set_option Elab.async false
set_option linter.all false
set_option maxRecDepth 100000
set_option maxHeartbeats 1000000
namespace Mi
open PySem PySem.Spec PyProof.Rows L2

/-! ### a tree of draws that does what a plainer one does, where the plainer one does not fail -/
inductive T.rel {α β : Type} (R : α → β → Prop) : T α → T β → Prop
  | fail {t : T α} : T.rel R t .fail
  | ret {a : α} {b : β} (h : R a b) : T.rel R (.ret a) (.ret b)
  | draw {k : Nat} {f : Nat → T α} {g : Nat → T β} (h : ∀ d, d < k → T.rel R (f d) (g d)) : T.rel R (.draw k f) (.draw k g)
theorem T.rel_bind {α β γ δ : Type} {R : α → β → Prop} {S : γ → δ → Prop} {t : T α} {u : T β} {f : α → T γ} {g : β → T δ} (h : T.rel R t u) (hf : ∀ a b, R a b → T.rel S (f a) (g b)) : T.rel S (t.bind f) (u.bind g) := by
  induction h with
  | fail => exact .fail
  | ret h => exact hf _ _ h
  | draw _ ih => exact .draw fun d hd => ih d hd
theorem T.rel.rel_mono {α β : Type} {R S : α → β → Prop} {t : T α} {u : T β} (h : T.rel R t u) (hf : ∀ a b, R a b → S a b) : T.rel S t u := by
  induction h with
  | fail => exact .fail
  | ret h => exact .ret (hf _ _ h)
  | draw _ ih => exact .draw fun d hd => ih d hd
theorem T.rel_lim {α β : Type} {R : α → β → Prop} {Q : β → Prop} {u : T β} {n : Nat} (q : u.lim n Q) : ∀ {t : T α}, T.rel R t u → t.lim n fun a => ∃ b, R a b ∧ Q b := by
  induction q with
  | ret q => intro t h; cases h with | ret h => exact .ret ⟨_, h, q⟩
  | draw _ ih => intro t h; cases h with | draw h => exact .draw fun d hd => ih d hd (h d hd)

/-! ### what is known of the names -/
inductive ES where
  | unk
  | nown
  | frz (d : D)
  | own (d : D)
  | any (d : D)
def ES.ok : ES → Slot → Prop
  | .unk, _ => True
  | .nown, s => s = none ∨ ∃ d, s = some (false, d)
  | .frz d, s => s = some (false, d)
  | .own d, s => s = some (true, d)
  | .any d, s => ∃ b, s = some (b, d)
def EsOk : List ES → Ev → Prop
  | [], e => e = []
  | x :: L, e => ∃ s e', e = s :: e' ∧ x.ok s ∧ EsOk L e'
theorem EsOk.get : ∀ {L : List ES} {e : Ev} {i : Nat} {x : ES}, EsOk L e → L[i]? = some x → ∃ s, e[i]? = some s ∧ x.ok s
  | [], e, i, x, h, q => by simp at q
  | y :: L, e, 0, x, h, q => by
    obtain ⟨s, e', rfl, h1, h2⟩ := h
    simp at q; subst q
    exact ⟨s, rfl, h1⟩
  | y :: L, e, i + 1, x, h, q => by
    obtain ⟨s, e', rfl, h1, h2⟩ := h
    obtain ⟨s', q1, q2⟩ := EsOk.get (i := i) h2 (by simpa using q)
    exact ⟨s', by simpa using q1, q2⟩
theorem EsOk.get' : ∀ {L : List ES} {e : Ev} {i : Nat} {s : Slot}, EsOk L e → e[i]? = some s → ∃ x, L[i]? = some x ∧ x.ok s
  | [], e, i, x, h, q => by
    have h' : e = [] := h
    subst h'; simp at q
  | y :: L, e, 0, s', h, q => by
    obtain ⟨s, e', rfl, h1, h2⟩ := h
    simp at q; subst q
    exact ⟨y, rfl, h1⟩
  | y :: L, e, i + 1, s', h, q => by
    obtain ⟨s, e', rfl, h1, h2⟩ := h
    obtain ⟨x, q1, q2⟩ := EsOk.get' (i := i) h2 (by simpa using q)
    exact ⟨x, by simpa using q1, q2⟩
theorem EsOk.len : ∀ {L : List ES} {e : Ev}, EsOk L e → e.length = L.length
  | [], e, h => by have h' : e = [] := h; subst h'; rfl
  | y :: L, e, h => by
    obtain ⟨s, e', rfl, h1, h2⟩ := h
    simp [EsOk.len h2]
theorem EsOk.set : ∀ {L : List ES} {e : Ev} {i : Nat} {x : ES} {s : Slot}, EsOk L e → x.ok s → EsOk (L.set i x) (e.set i s)
  | [], e, i, x, s, h, q => by have h' : e = [] := h; subst h'; exact rfl
  | y :: L, e, 0, x, s, h, q => by
    obtain ⟨s', e', rfl, h1, h2⟩ := h
    exact ⟨s, e', rfl, q, h2⟩
  | y :: L, e, i + 1, x, s, h, q => by
    obtain ⟨s', e', rfl, h1, h2⟩ := h
    exact ⟨s', e'.set i s, rfl, h1, EsOk.set h2 q⟩
inductive LE1 : ES → ES → Prop
  | rfl {x : ES} : LE1 x x
  | unk {x : ES} : LE1 x .unk
  | fn {d : D} : LE1 (.frz d) .nown
  | fa {d : D} : LE1 (.frz d) (.any d)
  | oa {d : D} : LE1 (.own d) (.any d)
theorem LE1.ok {x y : ES} (h : LE1 x y) {s : Slot} (q : x.ok s) : y.ok s := by
  cases h with
  | rfl => exact q
  | unk => trivial
  | fn => exact .inr ⟨_, q⟩
  | fa => exact ⟨_, q⟩
  | oa => exact ⟨_, q⟩
def LEs : List ES → List ES → Prop
  | [], [] => True
  | x :: L, y :: M => LE1 x y ∧ LEs L M
  | _, _ => False
theorem LEs.ok : ∀ {L M : List ES} {e : Ev}, LEs L M → EsOk L e → EsOk M e
  | [], [], e, _, h => h
  | x :: L, y :: M, e, q, h => by
    obtain ⟨s, e', rfl, h1, h2⟩ := h
    exact ⟨s, e', rfl, q.1.ok h1, LEs.ok q.2 h2⟩
  | [], _ :: _, e, q, h => q.elim
  | _ :: _, [], e, q, h => q.elim
theorem LEs.rfl' : ∀ {L : List ES}, LEs L L
  | [] => trivial
  | _ :: _ => ⟨.rfl, LEs.rfl'⟩
def ES.wk : ES → ES
  | .own d => .any d
  | x => x
theorem ES.wk_ok {x : ES} {s : Slot} (h : x.ok s) : x.wk.ok s := by
  cases x with
  | own d => exact ⟨_, h⟩
  | _ => exact h
theorem ES.wk_fz {x : ES} {b : Bool} {d : D} (h : x.ok (some (b, d))) : x.wk.ok (some (false, d)) := by
  cases x with
  | unk => trivial
  | nown => exact .inr ⟨_, rfl⟩
  | frz d' => cases h; rfl
  | own d' => cases h; exact ⟨_, rfl⟩
  | any d' => obtain ⟨b', h⟩ := h; cases h; exact ⟨_, rfl⟩
def wkAt : Nat → List ES → List ES
  | _, [] => []
  | 0, x :: L => x.wk :: L
  | i + 1, x :: L => x :: wkAt i L
def wks : List Nat → List ES → List ES
  | [], L => L
  | i :: is, L => wks is (wkAt i L)
theorem wkAt_ok : ∀ {i : Nat} {L : List ES} {e : Ev}, EsOk L e → EsOk (wkAt i L) e
  | i, [], e, h => by cases i <;> exact h
  | 0, x :: L, e, h => by
    obtain ⟨s, e', rfl, h1, h2⟩ := h
    exact ⟨s, e', rfl, ES.wk_ok h1, h2⟩
  | i + 1, x :: L, e, h => by
    obtain ⟨s, e', rfl, h1, h2⟩ := h
    exact ⟨s, e', rfl, h1, wkAt_ok h2⟩
theorem wks_ok : ∀ {is : List Nat} {L : List ES} {e : Ev}, EsOk L e → EsOk (wks is L) e
  | [], _, _, h => h
  | i :: is, L, e, h => wks_ok (is := is) (wkAt_ok h)
theorem wkAt_fz : ∀ {i : Nat} {L : List ES} {e : Ev} {b : Bool} {d : D}, EsOk L e → e[i]? = some (some (b, d)) → EsOk (wkAt i L) (e.set i (some (false, d)))
  | i, [], e, b, d, h, q => by have h' : e = [] := h; subst h'; simp at q
  | 0, x :: L, e, b, d, h, q => by
    obtain ⟨s, e', rfl, h1, h2⟩ := h
    simp at q; subst q
    exact ⟨_, e', rfl, ES.wk_fz h1, h2⟩
  | i + 1, x :: L, e, b, d, h, q => by
    obtain ⟨s, e', rfl, h1, h2⟩ := h
    exact ⟨s, e'.set i _, rfl, h1, wkAt_fz h2 (by simpa using q)⟩
theorem wks_fz : ∀ {is : List Nat} {i : Nat} {L : List ES} {e : Ev} {b : Bool} {d : D}, i ∈ is → EsOk L e → e[i]? = some (some (b, d)) → EsOk (wks is L) (e.set i (some (false, d)))
  | [], i, L, e, b, d, m, h, q => by simp at m
  | j :: is, i, L, e, b, d, m, h, q => by
    by_cases hj : i = j
    · subst hj
      exact wks_ok (is := is) (wkAt_fz h q)
    · refine wks_fz (is := is) ?_ (wkAt_ok h) q
      rcases List.mem_cons.mp m with m | m
      · exact (hj m).elim
      · exact m
/-- frozen by a block -/
def ES.fzd : ES → ES
  | .unk => .nown
  | .nown => .nown
  | .frz d => .frz d
  | .own d => .frz d
  | .any d => .frz d
def fzAt : Nat → List ES → List ES
  | _, [] => []
  | 0, x :: L => x.fzd :: L
  | i + 1, x :: L => x :: fzAt i L
def fzL : List Nat → List ES → List ES
  | [], L => L
  | i :: is, L => fzL is (fzAt i L)
def fzS : Slot → Slot
  | some (_, d) => some (false, d)
  | none => none
theorem ES.fzd_ok {x : ES} {s : Slot} (h : x.ok s) : x.fzd.ok (fzS s) := by
  cases x with
  | unk => cases s with | none => exact .inl rfl | some z => exact .inr ⟨_, rfl⟩
  | nown =>
    rcases h with rfl | ⟨d, rfl⟩
    · exact .inl rfl
    · exact .inr ⟨_, rfl⟩
  | frz d => cases h; rfl
  | own d => cases h; rfl
  | any d => obtain ⟨b, h⟩ := h; cases h; rfl
theorem fzAt_ok : ∀ {i : Nat} {L : List ES} {e : Ev}, EsOk L e → EsOk (fzAt i L) (match e[i]? with | some s => e.set i (fzS s) | none => e)
  | i, [], e, h => by have h' : e = [] := h; subst h'; cases i <;> exact rfl
  | 0, x :: L, e, h => by
    obtain ⟨s, e', rfl, h1, h2⟩ := h
    exact ⟨_, e', rfl, ES.fzd_ok h1, h2⟩
  | i + 1, x :: L, e, h => by
    obtain ⟨s, e', rfl, h1, h2⟩ := h
    have := fzAt_ok (i := i) h2
    simp only [List.getElem?_cons_succ]
    refine ⟨s, (match e'[i]? with | some s => e'.set i (fzS s) | none => e'), ?_, h1, this⟩
    cases e'[i]? <;> rfl
theorem frz_step (i : Nat) (is : List Nat) (e : Ev) : frzAll (i :: is) e = frzAll is (match e[i]? with | some s => e.set i (fzS s) | none => e) := by
  rw [frz_cons]
  cases h : e[i]? with
  | none => rfl
  | some s =>
    cases s with
    | none => dsimp only [fzS]; rw [show e.set i none = e from by
        apply List.ext_getElem?
        intro j
        rw [List.getElem?_set]
        split
        · rename_i hj; subst hj; rw [h]; split <;> rename_i hl
          · rfl
          · exact (hl (List.getElem?_eq_some_iff.mp h).1).elim
        · rfl]
    | some z =>
      obtain ⟨b, d⟩ := z
      cases b with
      | true => rfl
      | false => dsimp only [fzS]; rw [show e.set i (some (false, d)) = e from by
          apply List.ext_getElem?
          intro j
          rw [List.getElem?_set]
          split
          · rename_i hj; subst hj; rw [h]; split <;> rename_i hl
            · rfl
            · exact (hl (List.getElem?_eq_some_iff.mp h).1).elim
          · rfl]
theorem fzL_ok : ∀ {is : List Nat} {L : List ES} {e : Ev}, EsOk L e → EsOk (fzL is L) (frzAll is e)
  | [], _, _, h => h
  | i :: is, L, e, h => by
    rw [frz_step]
    exact fzL_ok (is := is) (fzAt_ok h)

/-! ### what an expression hands on -/
inductive HK where
  | val
  | tmp
  | any (is : List Nat)
def HK.slots : HK → List Nat
  | .val => []
  | .tmp => []
  | .any is => is
def HK.ok : HK → Ev → Hd → D → Prop
  | .val, _, h, d => h = .val d
  | .tmp, _, h, d => h = .tmp d
  | .any is, e, h, d => h = .val d ∨ h = .tmp d ∨ ∃ i b, i ∈ is ∧ h = .slot i ∧ e[i]? = some (some (b, d))
theorem hk_rs {k : HK} {e : Ev} {h : Hd} {d : D} (q : k.ok e h d) : rs e h = some d := by
  cases k with
  | val => cases q; rfl
  | tmp => cases q; rfl
  | any is =>
    rcases q with rfl | rfl | ⟨i, b, _, rfl, q⟩
    · rfl
    · rfl
    · simp [q]
theorem hk_fz {k : HK} {e : Ev} {h : Hd} {d : D} {L : List ES} (q : k.ok e h d) (E : EsOk L e) : ∃ e', fz e h = some (d, e') ∧ EsOk (wks k.slots L) e' ∧ (e' = e ∨ ∃ i b, h = .slot i ∧ e[i]? = some (some (b, d)) ∧ e' = e.set i (some (false, d))) := by
  cases k with
  | val => cases q; exact ⟨e, rfl, E, .inl rfl⟩
  | tmp => cases q; exact ⟨e, rfl, E, .inl rfl⟩
  | any is =>
    rcases q with rfl | rfl | ⟨i, b, m, rfl, q⟩
    · exact ⟨e, rfl, wks_ok E, .inl rfl⟩
    · exact ⟨e, rfl, wks_ok E, .inl rfl⟩
    · exact ⟨e.set i (some (false, d)), by simp [q], wks_fz m E q, .inr ⟨i, b, rfl, q, rfl⟩⟩
/-- freezing one slot leaves what another value is -/
theorem hk_fz_keep {k : HK} {e e' : Ev} {h h' : Hd} {d d' : D} (q : k.ok e h d) (s : e' = e ∨ ∃ i b, h' = .slot i ∧ e[i]? = some (some (b, d')) ∧ e' = e.set i (some (false, d'))) : k.ok e' h d := by
  rcases s with rfl | ⟨i, b, rfl, si, rfl⟩
  · exact q
  · cases k with
    | val => exact q
    | tmp => exact q
    | any is =>
      rcases q with q | q | ⟨j, c, m, q, r⟩
      · exact .inl q
      · exact .inr (.inl q)
      · refine .inr (.inr ?_)
        by_cases hj : i = j
        · subst hj
          rw [si] at r; cases r
          refine ⟨i, false, m, q, ?_⟩
          rw [List.getElem?_set_self (List.getElem?_eq_some_iff.mp si).1]
        · exact ⟨j, c, m, q, by rw [List.getElem?_set_ne hj]; exact r⟩
def ES.val : ES → Option D
  | .frz d => some d
  | .own d => some d
  | .any d => some d
  | _ => none
def valAt (L : List ES) (i : Nat) : Option D := match L[i]? with
  | some x => x.val
  | none => none
def Keeps (L1 L2 : List ES) : List Nat → Prop
  | [] => True
  | i :: is => (∃ d, valAt L1 i = some d ∧ valAt L2 i = some d) ∧ Keeps L1 L2 is
theorem Keeps.mem {L1 L2 : List ES} : ∀ {is : List Nat}, Keeps L1 L2 is → ∀ i ∈ is, ∃ d, valAt L1 i = some d ∧ valAt L2 i = some d
  | [], _, i, m => by simp at m
  | j :: is, h, i, m => by
    rcases List.mem_cons.mp m with rfl | m
    · exact h.1
    · exact Keeps.mem h.2 i m
theorem EsOk.valAt {L : List ES} {e : Ev} {i : Nat} {d : D} (E : EsOk L e) (h : Mi.valAt L i = some d) : ∃ b, e[i]? = some (some (b, d)) := by
  unfold Mi.valAt at h
  cases hx : L[i]? with
  | none => rw [hx] at h; cases h
  | some x =>
    rw [hx] at h
    obtain ⟨s, e1, e2⟩ := E.get hx
    cases x with
    | unk => cases h
    | nown => cases h
    | frz d' => cases h; cases e2; exact ⟨_, e1⟩
    | own d' => cases h; cases e2; exact ⟨_, e1⟩
    | any d' => cases h; obtain ⟨b, e2⟩ := e2; cases e2; exact ⟨_, e1⟩
theorem hk_keep {k : HK} {e1 e2 : Ev} {h : Hd} {d : D} {L1 L2 : List ES} (q : k.ok e1 h d) (E1 : EsOk L1 e1) (E2 : EsOk L2 e2) (K : Keeps L1 L2 k.slots) : k.ok e2 h d := by
  cases k with
  | val => exact q
  | tmp => exact q
  | any is =>
    rcases q with q | q | ⟨i, b, m, q, r⟩
    · exact .inl q
    · exact .inr (.inl q)
    · obtain ⟨d', v1, v2⟩ := K.mem i m
      obtain ⟨b1, r1⟩ := E1.valAt v1
      obtain ⟨b2, r2⟩ := E2.valAt v2
      rw [r] at r1; cases r1
      exact .inr (.inr ⟨i, b2, m, q, r2⟩)
theorem hk_any {k : HK} {e : Ev} {h : Hd} {d : D} {is : List Nat} (q : k.ok e h d) (s : ∀ i ∈ k.slots, i ∈ is) : (HK.any is).ok e h d := by
  cases k with
  | val => exact .inl q
  | tmp => exact .inr (.inl q)
  | any js =>
    rcases q with q | q | ⟨i, b, m, q, r⟩
    · exact .inl q
    · exact .inr (.inl q)
    · exact .inr (.inr ⟨i, b, s i m, q, r⟩)
end Mi
set_option Elab.async false
set_option linter.all false
set_option maxRecDepth 100000
set_option maxHeartbeats 1000000
namespace Mi
open PySem PySem.Spec PyProof.Rows L2

def hd (t : Bool) (d : D) : Hd := if t then .tmp d else .val d
def kd (t : Bool) : HK := if t then .tmp else .val
theorem kd_ok {t : Bool} {e : Ev} {d : D} : (kd t).ok e (hd t d) d := by cases t <;> rfl
theorem kd_slots {t : Bool} : (kd t).slots = [] := by cases t <;> rfl

section
variable {α β γ δ : Type}
def SE (m : M) (L : List ES) (k : HK) (e : β → D) (L' : List ES) (u : T β) : Prop := ∀ env, EsOk L env → T.rel (fun r b => k.ok r.2 r.1 (e b) ∧ EsOk L' r.2) (m env) u
def SX (t : MT) (L L' : List ES) (u : T Bool) : Prop := ∀ env, EsOk L env → T.rel (fun r b => r.1 = b ∧ EsOk L' r.2) (t env) u
def HsOk : List HK → Ev → List Hd → List D → Prop
  | [], _, hs, ds => hs = [] ∧ ds = []
  | k :: ks, e, hs, ds => ∃ h hr d dr, hs = h :: hr ∧ ds = d :: dr ∧ k.ok e h d ∧ HsOk ks e hr dr
def slotsOf : List HK → List Nat
  | [] => []
  | k :: ks => k.slots ++ slotsOf ks
def SH (ms : MH) (L : List ES) (ks : List HK) (e : γ → List D) (L' : List ES) (u : T γ) : Prop := ∀ env, EsOk L env → T.rel (fun r b => HsOk ks r.2 r.1 (e b) ∧ EsOk L' r.2) (ms env) u
variable {L L1 L2 L' : List ES} {k k1 k2 : HK} {m m1 m2 : M}

theorem HsOk.rss : ∀ {ks : List HK} {e : Ev} {hs : List Hd} {ds : List D}, HsOk ks e hs ds → rss e hs = some ds
  | [], e, hs, ds, h => by obtain ⟨rfl, rfl⟩ := h; rfl
  | k :: ks, e, hs, ds, h => by
    obtain ⟨x, hr, d, dr, rfl, rfl, h1, h2⟩ := h
    simp [hk_rs h1, HsOk.rss h2]
theorem HsOk.fz_keep {e e' : Ev} {h' : Hd} {d' : D} (s : e' = e ∨ ∃ i b, h' = .slot i ∧ e[i]? = some (some (b, d')) ∧ e' = e.set i (some (false, d'))) : ∀ {ks : List HK} {hs : List Hd} {ds : List D}, HsOk ks e hs ds → HsOk ks e' hs ds
  | [], hs, ds, h => h
  | k :: ks, hs, ds, h => by
    obtain ⟨x, hr, d, dr, rfl, rfl, h1, h2⟩ := h
    exact ⟨x, hr, d, dr, rfl, rfl, hk_fz_keep h1 s, HsOk.fz_keep s h2⟩
theorem wks_app : ∀ (is js : List Nat) (L : List ES), wks (is ++ js) L = wks js (wks is L)
  | [], _, _ => rfl
  | i :: is, js, L => wks_app is js (wkAt i L)
theorem HsOk.fzs : ∀ {ks : List HK} {e : Ev} {hs : List Hd} {ds : List D} {L : List ES}, HsOk ks e hs ds → EsOk L e → ∃ e', fzs e hs = some (ds, e') ∧ EsOk (wks (slotsOf ks) L) e'
  | [], e, hs, ds, L, h, E => by obtain ⟨rfl, rfl⟩ := h; exact ⟨e, rfl, E⟩
  | k :: ks, e, hs, ds, L, h, E => by
    obtain ⟨x, hr, d, dr, rfl, rfl, h1, h2⟩ := h
    obtain ⟨e1, f1, E1, s⟩ := hk_fz h1 E
    obtain ⟨e2, f2, E2⟩ := HsOk.fzs (h2.fz_keep s) E1
    refine ⟨e2, by simp [f1, f2], ?_⟩
    show EsOk (wks (k.slots ++ slotsOf ks) L) e2
    rw [wks_app]
    exact E2
theorem HsOk.len : ∀ {ks : List HK} {e : Ev} {hs : List Hd} {ds : List D}, HsOk ks e hs ds → hs.length = ds.length
  | [], e, hs, ds, h => by obtain ⟨rfl, rfl⟩ := h; rfl
  | k :: ks, e, hs, ds, h => by
    obtain ⟨x, hr, d, dr, rfl, rfl, h1, h2⟩ := h
    simp [HsOk.len h2]

/-! ### names, constants -/
theorem se_frz {e : β → D} (i : Nat) {x : β} (h : L[i]? = some (.frz (e x))) : SE (eVar i) L .val e L (.ret x) := fun env E => by
  obtain ⟨s, e1, e2⟩ := E.get h
  cases e2
  rw [eVar_e, e1]
  exact .ret ⟨rfl, E⟩
theorem se_own {e : β → D} (i : Nat) {x : β} (h : L[i]? = some (.own (e x))) : SE (eVar i) L (.any [i]) e L (.ret x) := fun env E => by
  obtain ⟨s, e1, e2⟩ := E.get h
  cases e2
  rw [eVar_e, e1]
  exact .ret ⟨.inr (.inr ⟨i, true, by simp, rfl, e1⟩), E⟩
theorem se_any {e : β → D} (i : Nat) {x : β} (h : L[i]? = some (.any (e x))) : SE (eVar i) L (.any [i]) e L (.ret x) := fun env E => by
  obtain ⟨s, e1, e2⟩ := E.get h
  obtain ⟨b, e2⟩ := e2
  cases e2
  rw [eVar_e, e1]
  cases b with
  | true => exact .ret ⟨.inr (.inr ⟨i, true, by simp, rfl, e1⟩), E⟩
  | false => exact .ret ⟨.inl rfl, E⟩
theorem se_c {e : β → D} {d : D} (x : β) (h : d = e x) : SE (eC d) L .val e L (.ret x) := fun env E => by
  subst h
  exact .ret ⟨rfl, E⟩
/-- another reading of the same value -/
theorem se_as {e : β → D} {e' : γ → D} {f : β → γ} {u : T β} (a : SE m L k e L' u) (h : ∀ b, e' (f b) = e b) : SE m L k e' L' (u.bind fun b => .ret (f b)) := fun env E => by
  have := T.rel_bind (f := fun r => T.ret r) (g := fun b => T.ret (f b)) (a env E) (S := fun r b => k.ok r.2 r.1 (e' b) ∧ EsOk L' r.2) fun r b q => .ret ⟨by rw [h]; exact q.1, q.2⟩
  rwa [show (m env).bind (fun r => T.ret r) = m env from T.bind_ret _] at this
where
  T.bind_ret {α : Type} : ∀ t : T α, t.bind (fun r => T.ret r) = t
    | .ret a => rfl
    | .fail => rfl
    | .draw k f => congrArg (T.draw k) (funext fun d => T.bind_ret (f d))
theorem se_asP {e : β → D} {e' : γ → D} {x : β} {y : γ} (a : SE m L k e L' (.ret x)) (h : e' y = e x) : SE m L k e' L' (.ret y) := fun env E => by
  have := a env E
  generalize m env = t at this
  cases this with
  | ret q => exact .ret ⟨by rw [h]; exact q.1, q.2⟩
theorem se_weak {e : β → D} {u : T β} (a : SE m L k e L1 u) (h : LEs L1 L') : SE m L k e L' u := fun env E => (a env E).rel_mono fun r b q => ⟨q.1, h.ok q.2⟩
theorem se_kind {e : β → D} {u : T β} (is : List Nat) (a : SE m L k e L' u) (h : ∀ i ∈ k.slots, i ∈ is) : SE m L (.any is) e L' u := fun env E => (a env E).rel_mono fun r b q => ⟨hk_any q.1 h, q.2⟩
theorem se_frzL {e : β → D} {u : T β} {is : List Nat} (a : SE m (fzL is L) k e L' u) : SE (eFrz is m) L k e L' u := fun env E => a _ (fzL_ok E)
theorem sx_weak {t : MT} {u : T Bool} (a : SX t L L1 u) (h : LEs L1 L') : SX t L L' u := fun env E => (a env E).rel_mono fun r b q => ⟨q.1, h.ok q.2⟩
theorem T.rel_one {α β : Type} {R : α → β → Prop} {t : T α} {b : β} (h : T.rel R t (.ret b)) : ∃ a, t = .ret a ∧ R a b := by
  cases h with
  | ret h => exact ⟨_, rfl, h⟩

/-! ### operators -/
def OpR (g : D → D → Option Hd) (e1 : α → D) (e2 : β → D) (t : Bool) (eo : γ → D) (f : α → β → T γ) : Prop := ∀ a b, T.rel (fun h c => h = hd t (eo c)) (T.ofO (g (e1 a) (e2 b))) (f a b)
def OpP (g : D → D → Option Hd) (e1 : α → D) (e2 : β → D) (t : Bool) (eo : γ → D) (f : α → β → γ) : Prop := ∀ a b, g (e1 a) (e2 b) = some (hd t (eo (f a b)))
theorem OpP.r {g : D → D → Option Hd} {e1 : α → D} {e2 : β → D} {t : Bool} {eo : γ → D} {f : α → β → γ} (h : OpP g e1 e2 t eo f) : OpR g e1 e2 t eo fun a b => .ret (f a b) := fun a b => by rw [h a b]; exact .ret rfl
theorem okH_rel {R : Hd × Ev → γ → Prop} {o : Option Hd} {t : Bool} {eo : γ → D} {u : T γ} {env : Ev} (h : T.rel (fun h c => h = hd t (eo c)) (T.ofO o) u) (hR : ∀ c, R (hd t (eo c), env) c) : T.rel R (okH env o) u := by
  cases o with
  | none => generalize hx : T.ofO (none : Option Hd) = x at h; cases h with
    | fail => exact .fail
    | ret h => cases hx
    | draw h => cases hx
  | some x => generalize hy : T.ofO (some x) = y at h; cases h with
    | fail => exact .fail
    | ret h => cases hy; subst h; exact .ret (hR _)
    | draw h => cases hy
theorem se_op {g : D → D → Option Hd} {e1 : α → D} {e2 : β → D} {t : Bool} {eo : γ → D} {f : α → β → T γ} {u1 : T α} {u2 : T β} (o : OpR g e1 e2 t eo f) (a : SE m1 L k1 e1 L1 u1) (b : SE m2 L1 k2 e2 L2 u2) (K : Keeps L1 L2 k1.slots := by trivial) : SE (eOp g m1 m2) L (kd t) eo L2 (u1.bind fun x => u2.bind fun y => f x y) := fun env E => by
  rw [eOp_e]
  refine T.rel_bind (a env E) fun r1 x q1 => T.rel_bind (b _ q1.2) fun r2 y q2 => ?_
  have h1 := hk_keep q1.1 q1.2 q2.2 K
  rw [f2_e, hk_rs h1, hk_rs q2.1]
  exact okH_rel (o x y) fun c => ⟨kd_ok, q2.2⟩
theorem se_opT {g : D → D → Option Hd} {e1 : α → D} {e2 : β → D} {t : Bool} {eo : γ → D} {f : α → β → T γ} {x : α} {y : β} (o : OpR g e1 e2 t eo f) (a : SE m1 L k1 e1 L1 (.ret x)) (b : SE m2 L1 k2 e2 L2 (.ret y)) (K : Keeps L1 L2 k1.slots := by trivial) : SE (eOp g m1 m2) L (kd t) eo L2 (f x y) := se_op o a b K
theorem se_opP {g : D → D → Option Hd} {e1 : α → D} {e2 : β → D} {t : Bool} {eo : γ → D} {f : α → β → γ} {x : α} {y : β} (o : OpP g e1 e2 t eo f) (a : SE m1 L k1 e1 L1 (.ret x)) (b : SE m2 L1 k2 e2 L2 (.ret y)) (K : Keeps L1 L2 k1.slots := by trivial) : SE (eOp g m1 m2) L (kd t) eo L2 (.ret (f x y)) := se_op o.r a b K
theorem se_opL {g : D → D → Option Hd} {e1 : α → D} {e2 : β → D} {t : Bool} {eo : γ → D} {f : α → β → T γ} {u1 : T α} {y : β} (o : OpR g e1 e2 t eo f) (a : SE m1 L k1 e1 L1 u1) (b : SE m2 L1 k2 e2 L2 (.ret y)) (K : Keeps L1 L2 k1.slots := by trivial) : SE (eOp g m1 m2) L (kd t) eo L2 (u1.bind fun x => f x y) := se_op o a b K
theorem se_opE {g : D → D → Option Hd} {e1 : α → D} {e2 : β → D} {t : Bool} {eo : γ → D} {f : α → β → T γ} {x : α} {u2 : T β} (o : OpR g e1 e2 t eo f) (a : SE m1 L k1 e1 L1 (.ret x)) (b : SE m2 L1 k2 e2 L2 u2) (K : Keeps L1 L2 k1.slots := by trivial) : SE (eOp g m1 m2) L (kd t) eo L2 (u2.bind fun y => f x y) := se_op o a b K
def UnR (g : D → Option Hd) (e1 : α → D) (t : Bool) (eo : γ → D) (f : α → T γ) : Prop := ∀ a, T.rel (fun h c => h = hd t (eo c)) (T.ofO (g (e1 a))) (f a)
def UnP (g : D → Option Hd) (e1 : α → D) (t : Bool) (eo : γ → D) (f : α → γ) : Prop := ∀ a, g (e1 a) = some (hd t (eo (f a)))
theorem UnP.r {g : D → Option Hd} {e1 : α → D} {t : Bool} {eo : γ → D} {f : α → γ} (h : UnP g e1 t eo f) : UnR g e1 t eo fun a => .ret (f a) := fun a => by rw [h a]; exact .ret rfl
theorem se_un {g : D → Option Hd} {e1 : α → D} {t : Bool} {eo : γ → D} {f : α → T γ} {u : T α} (o : UnR g e1 t eo f) (a : SE m L k e1 L' u) : SE (eUn g m) L (kd t) eo L' (u.bind f) := fun env E => by
  rw [eUn_e]
  refine T.rel_bind (a env E) fun r x q => ?_
  rw [f1_e, hk_rs q.1]
  exact okH_rel (o x) fun c => ⟨kd_ok, q.2⟩
theorem se_unP {g : D → Option Hd} {e1 : α → D} {t : Bool} {eo : γ → D} {f : α → γ} {x : α} (o : UnP g e1 t eo f) (a : SE m L k e1 L' (.ret x)) : SE (eUn g m) L (kd t) eo L' (.ret (f x)) := se_un o.r a

/-! ### rows of arguments -/
theorem sh_nil : SH hNil L [] (fun _ : Unit => []) L (.ret ()) := fun env E => .ret ⟨⟨rfl, rfl⟩, E⟩
theorem HsOk.keep {e1 e2 : Ev} (E1 : EsOk L1 e1) (E2 : EsOk L2 e2) : ∀ {ks : List HK} {hs : List Hd} {ds : List D}, HsOk ks e1 hs ds → Keeps L1 L2 (slotsOf ks) → HsOk ks e2 hs ds
  | [], hs, ds, h, _ => h
  | k :: ks, hs, ds, h, K => by
    obtain ⟨x, hr, d, dr, rfl, rfl, h1, h2⟩ := h
    have hK : ∀ i ∈ slotsOf (k :: ks), ∃ d, valAt L1 i = some d ∧ valAt L2 i = some d := K.mem
    have mk : ∀ {is : List Nat}, (∀ i ∈ is, ∃ d, valAt L1 i = some d ∧ valAt L2 i = some d) → Keeps L1 L2 is := fun {is} h => by
      induction is with
      | nil => trivial
      | cons i is ih => exact ⟨h i (by simp), ih fun j m => h j (by simp [m])⟩
    exact ⟨x, hr, d, dr, rfl, rfl, hk_keep h1 E1 E2 (mk fun i m => hK i (List.mem_append.mpr (.inl m))), HsOk.keep E1 E2 h2 (mk fun i m => hK i (List.mem_append.mpr (.inr m)))⟩
theorem sh_cons {ms : MH} {ks : List HK} {e : β → D} {es : γ → List D} {u1 : T β} {u2 : T γ} (a : SE m L k e L1 u1) (b : SH ms L1 ks es L2 u2) (K : Keeps L1 L2 k.slots := by trivial) : SH (hCons m ms) L (k :: ks) (fun p : β × γ => e p.1 :: es p.2) L2 (u1.bind fun x => u2.bind fun y => .ret (x, y)) := fun env E => by
  rw [hCons_e]
  refine T.rel_bind (a env E) fun r1 x q1 => T.rel_bind (b _ q1.2) fun r2 y q2 => .ret ?_
  exact ⟨⟨r1.1, r2.1, e x, es y, rfl, rfl, hk_keep q1.1 q1.2 q2.2 K, q2.1⟩, q2.2⟩
theorem sh_consP {ms : MH} {ks : List HK} {e : β → D} {es : γ → List D} {x : β} {y : γ} (a : SE m L k e L1 (.ret x)) (b : SH ms L1 ks es L2 (.ret y)) (K : Keeps L1 L2 k.slots := by trivial) : SH (hCons m ms) L (k :: ks) (fun p : β × γ => e p.1 :: es p.2) L2 (.ret (x, y)) := sh_cons a b K
theorem sh_consL {ms : MH} {ks : List HK} {e : β → D} {es : γ → List D} {u1 : T β} {y : γ} (a : SE m L k e L1 u1) (b : SH ms L1 ks es L2 (.ret y)) (K : Keeps L1 L2 k.slots := by trivial) : SH (hCons m ms) L (k :: ks) (fun p : β × γ => e p.1 :: es p.2) L2 (u1.bind fun x => .ret (x, y)) := sh_cons a b K
theorem sh_consE {ms : MH} {ks : List HK} {e : β → D} {es : γ → List D} {x : β} {u2 : T γ} (a : SE m L k e L1 (.ret x)) (b : SH ms L1 ks es L2 u2) (K : Keeps L1 L2 k.slots := by trivial) : SH (hCons m ms) L (k :: ks) (fun p : β × γ => e p.1 :: es p.2) L2 (u2.bind fun y => .ret (x, y)) := sh_cons a b K
def FnR (g : List D → Option Hd) (es : γ → List D) (t : Bool) (eo : δ → D) (f : γ → T δ) : Prop := ∀ a, T.rel (fun h c => h = hd t (eo c)) (T.ofO (g (es a))) (f a)
def FnP (g : List D → Option Hd) (es : γ → List D) (t : Bool) (eo : δ → D) (f : γ → δ) : Prop := ∀ a, g (es a) = some (hd t (eo (f a)))
theorem FnP.r {g : List D → Option Hd} {es : γ → List D} {t : Bool} {eo : δ → D} {f : γ → δ} (h : FnP g es t eo f) : FnR g es t eo fun a => .ret (f a) := fun a => by rw [h a]; exact .ret rfl
variable {ms : MH} {ks : List HK} {es : γ → List D}
theorem se_call {g : List D → Option Hd} {t : Bool} {eo : δ → D} {f : γ → T δ} {u : T γ} (o : FnR g es t eo f) (a : SH ms L ks es L' u) : SE (eCall ms g) L (kd t) eo L' (u.bind f) := fun env E => by
  rw [eCall_e]
  refine T.rel_bind (a env E) fun r x q => ?_
  rw [q.1.rss, rssK_s]
  exact okH_rel (o x) fun c => ⟨kd_ok, q.2⟩
theorem se_callT {g : List D → Option Hd} {t : Bool} {eo : δ → D} {f : γ → T δ} {x : γ} (o : FnR g es t eo f) (a : SH ms L ks es L' (.ret x)) : SE (eCall ms g) L (kd t) eo L' (f x) := se_call o a
theorem se_callP {g : List D → Option Hd} {t : Bool} {eo : δ → D} {f : γ → δ} {x : γ} (o : FnP g es t eo f) (a : SH ms L ks es L' (.ret x)) : SE (eCall ms g) L (kd t) eo L' (.ret (f x)) := se_call o.r a
/-- a tuple, of a row of values -/
theorem se_tup {eo : δ → D} {u : T γ} (mk : γ → δ) (h : ∀ c, eo (mk c) = .tup (es c)) (a : SH ms L ks es L' u) : SE (eTup ms) L .val eo (wks (slotsOf ks) L') (u.bind fun c => .ret (mk c)) := fun env E => by
  rw [eTup_e]
  refine T.rel_bind (a env E) fun r x q => ?_
  obtain ⟨e', f, E'⟩ := q.1.fzs q.2
  rw [f, fzK_s]
  exact .ret ⟨by rw [h]; rfl, E'⟩
theorem se_tupP {eo : δ → D} {x : γ} (mk : γ → δ) (h : ∀ c, eo (mk c) = .tup (es c)) (a : SH ms L ks es L' (.ret x)) : SE (eTup ms) L .val eo (wks (slotsOf ks) L') (.ret (mk x)) := se_tup mk h a
theorem se_lst {eo : δ → D} {u : T γ} (mk : γ → δ) (h : ∀ c, eo (mk c) = .lst (es c)) (a : SH ms L ks es L' u) : SE (eLst ms) L .tmp eo (wks (slotsOf ks) L') (u.bind fun c => .ret (mk c)) := fun env E => by
  rw [eLst_e]
  refine T.rel_bind (a env E) fun r x q => ?_
  obtain ⟨e', f, E'⟩ := q.1.fzs q.2
  rw [f, fzK_s]
  exact .ret ⟨by rw [h]; rfl, E'⟩
theorem se_lstP {eo : δ → D} {x : γ} (mk : γ → δ) (h : ∀ c, eo (mk c) = .lst (es c)) (a : SH ms L ks es L' (.ret x)) : SE (eLst ms) L .tmp eo (wks (slotsOf ks) L') (.ret (mk x)) := se_lst mk h a
/-! ### calls of the program's own -/
def FnN (g : List D → T D) (es : γ → List D) (eo : δ → D) (n : γ → T δ) : Prop := ∀ c, T.rel (fun d r => d = eo r) (g (es c)) (n c)
theorem se_def {g : List D → T D} {eo : δ → D} {n : γ → T δ} {u : T γ} (f : FnN g es eo n) (a : SH ms L ks es L' u) : SE (eDef g ms) L .val eo (wks (slotsOf ks) L') (u.bind n) := fun env E => by
  rw [eDef_e]
  refine T.rel_bind (a env E) fun r x q => ?_
  obtain ⟨e', h, E'⟩ := q.1.fzs q.2
  rw [h, fzK_s]
  have := T.rel_bind (f := fun d => T.ret (.val d, if lf d = true then r.2 else e')) (g := fun c => T.ret c) (S := fun r b => HK.ok .val r.2 r.1 (eo b) ∧ EsOk (wks (slotsOf ks) L') r.2) (f x) fun d b hd => .ret ⟨by subst hd; rfl, by
    dsimp only
    split
    · exact wks_ok q.2
    · exact E'⟩
  rwa [show (n x).bind (fun c => T.ret c) = n x from se_as.T.bind_ret _] at this
theorem se_defP {g : List D → T D} {eo : δ → D} {n : γ → T δ} {x : γ} (f : FnN g es eo n) (a : SH ms L ks es L' (.ret x)) : SE (eDef g ms) L .val eo (wks (slotsOf ks) L') (n x) := se_def f a
/-- one whose result holds no list: nothing freezes -/
theorem se_defL {g : List D → T D} {eo : δ → D} {n : γ → T δ} {u : T γ} (f : FnN g es eo n) (l : ∀ b, lf (eo b) = true) (a : SH ms L ks es L' u) : SE (eDef g ms) L .val eo L' (u.bind n) := fun env E => by
  rw [eDef_e]
  refine T.rel_bind (a env E) fun r x q => ?_
  obtain ⟨e', h, E'⟩ := q.1.fzs q.2
  rw [h, fzK_s]
  have := T.rel_bind (f := fun d => T.ret (.val d, if lf d = true then r.2 else e')) (g := fun c => T.ret c) (S := fun r b => HK.ok .val r.2 r.1 (eo b) ∧ EsOk L' r.2) (f x) fun d b hd => .ret ⟨by subst hd; rfl, by dsimp only; rw [if_pos (by rw [hd]; exact l b)]; exact q.2⟩
  rwa [show (n x).bind (fun c => T.ret c) = n x from se_as.T.bind_ret _] at this
theorem se_defLP {g : List D → T D} {eo : δ → D} {n : γ → T δ} {x : γ} (f : FnN g es eo n) (l : ∀ b, lf (eo b) = true) (a : SH ms L ks es L' (.ret x)) : SE (eDef g ms) L .val eo L' (n x) := se_defL f l a

/-! ### tests -/
variable {t t' : MT} {u u1 u2 : T Bool}
abbrev eB : Bool → D := .bl
theorem sx_val (a : SE m L .val eB L' u) : SX (mTest m) L L' u := fun env E => by
  rw [mTest_e]
  have := T.rel_bind (f := blK fun b e => T.ret (b, e)) (g := fun c => T.ret c) (S := fun (r : Bool × Ev) b => r.1 = b ∧ EsOk L' r.2) (a env E) fun r b q => by
    obtain ⟨h, e⟩ := r
    obtain ⟨q1, q2⟩ := q
    cases q1
    exact .ret ⟨rfl, q2⟩
  rwa [show u.bind (fun c => T.ret c) = u from se_as.T.bind_ret _] at this
theorem sx_not (a : SX t L L' u) : SX (mNot t) L L' (u.bind fun b => .ret (!b)) := fun env E => by
  rw [mNot_e]
  exact T.rel_bind (a env E) fun r b q => .ret ⟨by rw [q.1], q.2⟩
theorem sx_notP {x : Bool} (a : SX t L L' (.ret x)) : SX (mNot t) L L' (.ret (!x)) := sx_not a
theorem sx_and (a : SX t L L1 u1) (b : SX t' L1 L2 u2) (h1 : LEs L1 L') (h2 : LEs L2 L') : SX (mAnd t t') L L' (u1.bind fun x => if x then u2 else .ret false) := fun env E => by
  rw [mAnd_e]
  refine T.rel_bind (a env E) fun r x q => ?_
  rw [q.1]
  cases x with
  | true => exact (sx_weak b h2) _ q.2
  | false => exact .ret ⟨rfl, h1.ok q.2⟩
theorem sx_or (a : SX t L L1 u1) (b : SX t' L1 L2 u2) (h1 : LEs L1 L') (h2 : LEs L2 L') : SX (mOr t t') L L' (u1.bind fun x => if x then .ret true else u2) := fun env E => by
  rw [mOr_e]
  refine T.rel_bind (a env E) fun r x q => ?_
  rw [q.1]
  cases x with
  | false => exact (sx_weak b h2) _ q.2
  | true => exact .ret ⟨rfl, h1.ok q.2⟩
theorem sx_andP {x y : Bool} (a : SX t L L1 (.ret x)) (b : SX t' L1 L2 (.ret y)) (h1 : LEs L1 L') (h2 : LEs L2 L') : SX (mAnd t t') L L' (.ret (x && y)) := by
  have := sx_and a b h1 h2
  cases x <;> exact this
theorem sx_orP {x y : Bool} (a : SX t L L1 (.ret x)) (b : SX t' L1 L2 (.ret y)) (h1 : LEs L1 L') (h2 : LEs L2 L') : SX (mOr t t') L L' (.ret (x || y)) := by
  have := sx_or a b h1 h2
  cases x <;> exact this
theorem sx_andL {x : Bool} (a : SX t L L1 (.ret x)) (b : SX t' L1 L2 u2) (h1 : LEs L1 L') (h2 : LEs L2 L') : SX (mAnd t t') L L' (if x then u2 else .ret false) := sx_and a b h1 h2
theorem sx_orL {x : Bool} (a : SX t L L1 (.ret x)) (b : SX t' L1 L2 u2) (h1 : LEs L1 L') (h2 : LEs L2 L') : SX (mOr t t') L L' (if x then .ret true else u2) := sx_or a b h1 h2
theorem sx_yes : SX mYes L L (.ret true) := fun env E => .ret ⟨rfl, E⟩
/-- as values -/
theorem se_not (a : SE m L .val eB L' u) : SE (eNotV m) L .val eB L' (u.bind fun b => .ret (!b)) := fun env E => by
  rw [eNotV_e]
  refine T.rel_bind (a env E) fun r b q => ?_
  obtain ⟨h, e⟩ := r
  obtain ⟨q1, q2⟩ := q
  cases q1
  exact .ret ⟨rfl, q2⟩
theorem se_notP {x : Bool} (a : SE m L .val eB L' (.ret x)) : SE (eNotV m) L .val eB L' (.ret (!x)) := se_not a
theorem se_and (a : SE m1 L .val eB L1 u1) (b : SE m2 L1 .val eB L2 u2) (h1 : LEs L1 L') (h2 : LEs L2 L') : SE (eAnd m1 m2) L .val eB L' (u1.bind fun x => if x then u2 else .ret false) := fun env E => by
  rw [eAnd_e]
  refine T.rel_bind (a env E) fun r x q => ?_
  obtain ⟨h, e⟩ := r
  obtain ⟨q1, q2⟩ := q
  cases q1
  rw [blK_b]
  cases x with
  | true => exact (se_weak b h2) _ q2
  | false => exact .ret ⟨rfl, h1.ok q2⟩
theorem se_or (a : SE m1 L .val eB L1 u1) (b : SE m2 L1 .val eB L2 u2) (h1 : LEs L1 L') (h2 : LEs L2 L') : SE (eOr m1 m2) L .val eB L' (u1.bind fun x => if x then .ret true else u2) := fun env E => by
  rw [eOr_e]
  refine T.rel_bind (a env E) fun r x q => ?_
  obtain ⟨h, e⟩ := r
  obtain ⟨q1, q2⟩ := q
  cases q1
  rw [blK_b]
  cases x with
  | false => exact (se_weak b h2) _ q2
  | true => exact .ret ⟨rfl, h1.ok q2⟩
theorem se_andP {x y : Bool} (a : SE m1 L .val eB L1 (.ret x)) (b : SE m2 L1 .val eB L2 (.ret y)) (h1 : LEs L1 L') (h2 : LEs L2 L') : SE (eAnd m1 m2) L .val eB L' (.ret (x && y)) := by
  have := se_and a b h1 h2
  cases x <;> exact this
theorem se_orP {x y : Bool} (a : SE m1 L .val eB L1 (.ret x)) (b : SE m2 L1 .val eB L2 (.ret y)) (h1 : LEs L1 L') (h2 : LEs L2 L') : SE (eOr m1 m2) L .val eB L' (.ret (x || y)) := by
  have := se_or a b h1 h2
  cases x <;> exact this
theorem se_andL {x : Bool} (a : SE m1 L .val eB L1 (.ret x)) (b : SE m2 L1 .val eB L2 u2) (h1 : LEs L1 L') (h2 : LEs L2 L') : SE (eAnd m1 m2) L .val eB L' (if x then u2 else .ret false) := se_and a b h1 h2
theorem se_orL {x : Bool} (a : SE m1 L .val eB L1 (.ret x)) (b : SE m2 L1 .val eB L2 u2) (h1 : LEs L1 L') (h2 : LEs L2 L') : SE (eOr m1 m2) L .val eB L' (if x then .ret true else u2) := se_or a b h1 h2
theorem se_if {e : β → D} {v1 v2 : T β} (c : SX t L L1 u) (a : SE m1 L1 k e L2 v1) (b : SE m2 L1 k e L' v2) (h1 : LEs L2 L') : SE (eIf t m1 m2) L k e L' (u.bind fun x => if x then v1 else v2) := fun env E => by
  rw [eIf_e]
  refine T.rel_bind (c env E) fun r x q => ?_
  rw [q.1]
  cases x with
  | true => exact (se_weak a h1) _ q.2
  | false => exact b _ q.2
theorem se_ifL {e : β → D} {v1 v2 : T β} {x : Bool} (c : SX t L L1 (.ret x)) (a : SE m1 L1 k e L2 v1) (b : SE m2 L1 k e L' v2) (h1 : LEs L2 L') : SE (eIf t m1 m2) L k e L' (if x then v1 else v2) := se_if c a b h1
theorem se_ifP {e : β → D} {y z : β} {x : Bool} (c : SX t L L1 (.ret x)) (a : SE m1 L1 k e L2 (.ret y)) (b : SE m2 L1 k e L' (.ret z)) (h1 : LEs L2 L') : SE (eIf t m1 m2) L k e L' (.ret (if x then y else z)) := by
  have := se_ifL c a b h1
  cases x <;> exact this
/-- a chain of two comparisons -/
theorem se_chain {g g' : D → D → Option Hd} {e1 : α → D} {e2 : β → D} {e3 : γ → D} {f : α → β → Bool} {f' : β → γ → Bool} {m3 : M} {k3 : HK} {L3 : List ES} {v1 : T α} {v2 : T β} {v3 : T γ} (o : OpP g e1 e2 false eB f) (o' : OpP g' e2 e3 false eB f') (a : SE m1 L k1 e1 L1 v1) (b : SE m2 L1 k2 e2 L2 v2) (c : SE m3 L2 k3 e3 L3 v3) (K : Keeps L1 L2 k1.slots) (K' : Keeps L2 L3 k2.slots) (h : LEs L2 L3) :
    SE (eChain g g' m1 m2 m3) L .val eB L3 (v1.bind fun x => v2.bind fun y => if f x y then v3.bind fun z => .ret (f' y z) else .ret false) := fun env E => by
  rw [eChain_e]
  refine T.rel_bind (a env E) fun r1 x q1 => T.rel_bind (b _ q1.2) fun r2 y q2 => ?_
  rw [hk_rs (hk_keep q1.1 q1.2 q2.2 K), hk_rs q2.1]
  dsimp only
  rw [o x y]
  show T.rel _ (chK _ r2.2 (some (.val (.bl (f x y))))) _
  rw [chK_b]
  cases hf : f x y with
  | false => exact .ret ⟨rfl, h.ok q2.2⟩
  | true =>
    refine T.rel_bind (c _ q2.2) fun r3 z q3 => ?_
    rw [hk_rs (hk_keep q2.1 q2.2 q3.2 K'), hk_rs q3.1]
    dsimp only
    rw [o' y z]
    exact .ret ⟨rfl, q3.2⟩
theorem se_chainP {g g' : D → D → Option Hd} {e1 : α → D} {e2 : β → D} {e3 : γ → D} {f : α → β → Bool} {f' : β → γ → Bool} {m3 : M} {k3 : HK} {L3 : List ES} {x : α} {y : β} {z : γ} (o : OpP g e1 e2 false eB f) (o' : OpP g' e2 e3 false eB f') (a : SE m1 L k1 e1 L1 (.ret x)) (b : SE m2 L1 k2 e2 L2 (.ret y)) (c : SE m3 L2 k3 e3 L3 (.ret z)) (K : Keeps L1 L2 k1.slots) (K' : Keeps L2 L3 k2.slots) (h : LEs L2 L3) :
    SE (eChain g g' m1 m2 m3) L .val eB L3 (.ret (f x y && f' y z)) := by
  have := se_chain o o' a b c K K' h
  simp only [T.ret_bind] at this
  cases hf : f x y <;> simpa [hf] using this
theorem okB_rel {o : Option Bool} {u : T Bool} (h : T.rel (fun h c => h = c) (T.ofO o) u) : T.rel (fun h c => h = hd false (eB c)) (T.ofO (o.map fun b => Hd.val (.bl b))) u := by
  cases o with
  | none =>
    have h' : T.rel (fun h c => h = c) (T.fail : T Bool) u := h
    show T.rel _ T.fail u
    cases h' with
    | fail => exact .fail
  | some b =>
    have h' : T.rel (fun h c => h = c) (T.ret b) u := h
    show T.rel _ (T.ret _) u
    cases h' with
    | fail => exact .fail
    | ret q => subst q; exact .ret rfl
theorem se_isi {T' : String} {e : α → D} {v : T α} {f : α → T Bool} (o : ∀ a, T.rel (fun h c => h = c) (T.ofO (gIsi T' (e a))) (f a)) (a : SE m L k e L' v) : SE (eIsi T' m) L .val eB L' (v.bind f) := fun env E => by
  rw [eIsi_e]
  refine T.rel_bind (a env E) fun r x q => ?_
  rw [hk_rs q.1]
  dsimp only
  exact okH_rel (t := false) (eo := eB) (okB_rel (o x)) fun c => ⟨rfl, q.2⟩
end
end Mi
set_option Elab.async false
set_option linter.all false
set_option maxRecDepth 100000
set_option maxHeartbeats 1000000
namespace Mi
open PySem PySem.Spec PyProof.Rows L2

section
variable {α β γ δ ε : Type}
abbrev eI : Int → D := .int
abbrev eS : List Nat → D := .str
abbrev eScr : List Int → D := .scr
abbrev eD : D → D := id
def ePot (_ : Unit) : D := .pot
def eN (_ : Unit) : D := .non
def eT (e : α → D) (l : List α) : D := .tup (l.map e)
def eL (e : α → D) (l : List α) : D := .lst (l.map e)
def eP2 (e1 : α → D) (e2 : β → D) (p : α × β) : D := .tup [e1 p.1, e2 p.2]
def eP3 (e1 : α → D) (e2 : β → D) (e3 : γ → D) (p : α × β × γ) : D := .tup [e1 p.1, e2 p.2.1, e3 p.2.2]
def eP4 (e1 : α → D) (e2 : β → D) (e3 : γ → D) (e4 : δ → D) (p : α × β × γ × δ) : D := .tup [e1 p.1, e2 p.2.1, e3 p.2.2.1, e4 p.2.2.2]
def eP5 (e1 : α → D) (e2 : β → D) (e3 : γ → D) (e4 : δ → D) (e5 : ε → D) (p : α × β × γ × δ × ε) : D := .tup [e1 p.1, e2 p.2.1, e3 p.2.2.1, e4 p.2.2.2.1, e5 p.2.2.2.2]
/-- a list of two of different kinds -/
def eQ2 (e1 : α → D) (e2 : β → D) (p : α × β) : D := .lst [e1 p.1, e2 p.2]
def eO (e : α → D) : Option α → D
  | none => .non
  | some a => e a

/-! ### equal -/
structure EqE (e : α → D) [DecidableEq α] (dp : Nat) : Prop where
  eq : ∀ n, dp ≤ n → ∀ a b, eqDn n (e a) (e b) = some (decide (a = b))
theorem eq_I : EqE eI 1 := ⟨fun n h a b => by
  obtain ⟨m, rfl⟩ : ∃ m, n = m + 1 := ⟨n - 1, by omega⟩
  show some (a == b) = _
  by_cases q : a = b
  · subst q; simp
  · simp [q]⟩
theorem eq_B : EqE eB 1 := ⟨fun n h a b => by
  obtain ⟨m, rfl⟩ : ∃ m, n = m + 1 := ⟨n - 1, by omega⟩
  show some (a == b) = _
  cases a <;> cases b <;> rfl⟩
theorem eq_S : EqE eS 1 := ⟨fun n h a b => by
  obtain ⟨m, rfl⟩ : ∃ m, n = m + 1 := ⟨n - 1, by omega⟩
  show some (a == b) = _
  by_cases q : a = b
  · subst q; simp
  · simp [q]⟩
theorem eqL_e {e : α → D} [DecidableEq α] {n : Nat} (h : ∀ a b, eqDn n (e a) (e b) = some (decide (a = b))) : ∀ xs ys : List α, eqL (eqDn n) (xs.map e) (ys.map e) = some (decide (xs = ys))
  | [], [] => rfl
  | [], _ :: _ => rfl
  | _ :: _, [] => rfl
  | x :: xs, y :: ys => by
    simp only [List.map_cons, eqL, h x y, eqL_e h xs ys]
    by_cases q : x = y
    · subst q; simp
    · simp [q]
theorem eq_T {e : α → D} [DecidableEq α] {k : Nat} (h : EqE e k) : EqE (eT e) (k + 1) := ⟨fun n hn a b => by
  obtain ⟨m, rfl⟩ : ∃ m, n = m + 1 := ⟨n - 1, by omega⟩
  show eqL (eqDn m) _ _ = _
  exact eqL_e (h.eq m (by omega)) a b⟩
theorem eq_L {e : α → D} [DecidableEq α] {k : Nat} (h : EqE e k) : EqE (eL e) (k + 1) := ⟨fun n hn a b => by
  obtain ⟨m, rfl⟩ : ∃ m, n = m + 1 := ⟨n - 1, by omega⟩
  show (if (a.map e).length = (b.map e).length then eqL (eqDn m) _ _ else some false) = _
  split
  · exact eqL_e (h.eq m (by omega)) a b
  · rename_i hl
    rw [decide_eq_false]
    rintro rfl
    exact hl rfl⟩
theorem eq_P2 {e1 : α → D} {e2 : β → D} [DecidableEq α] [DecidableEq β] {k : Nat} (h1 : EqE e1 k) (h2 : EqE e2 k) : EqE (eP2 e1 e2) (k + 1) := ⟨fun n hn a b => by
  obtain ⟨m, rfl⟩ : ∃ m, n = m + 1 := ⟨n - 1, by omega⟩
  show eqL (eqDn m) _ _ = _
  simp only [eqL, h1.eq m (by omega), h2.eq m (by omega)]
  rw [Bool.and_true, ← Bool.decide_and]
  simp [Prod.ext_iff]⟩
theorem eq_P3 {e1 : α → D} {e2 : β → D} {e3 : γ → D} [DecidableEq α] [DecidableEq β] [DecidableEq γ] {k : Nat} (h1 : EqE e1 k) (h2 : EqE e2 k) (h3 : EqE e3 k) : EqE (eP3 e1 e2 e3) (k + 1) := ⟨fun n hn a b => by
  obtain ⟨m, rfl⟩ : ∃ m, n = m + 1 := ⟨n - 1, by omega⟩
  show eqL (eqDn m) _ _ = _
  simp only [eqL, h1.eq m (by omega), h2.eq m (by omega), h3.eq m (by omega)]
  rw [Bool.and_true, ← Bool.decide_and, ← Bool.decide_and]
  simp [Prod.ext_iff]⟩
theorem EqE.le {e : α → D} [DecidableEq α] {k k' : Nat} (h : EqE e k) (l : k ≤ k') : EqE e k' := ⟨fun n hn => h.eq n (by omega)⟩
/-- never None -/
structure NoN (e : α → D) : Prop where
  l : ∀ n a, eqDn (n + 1) .non (e a) = some false
  r : ∀ n a, eqDn (n + 1) (e a) .non = some false
  is : ∀ a, isN (e a) = some false
theorem nn_I : NoN eI := ⟨fun _ _ => rfl, fun _ _ => rfl, fun _ => rfl⟩
theorem nn_B : NoN eB := ⟨fun _ _ => rfl, fun _ _ => rfl, fun _ => rfl⟩
theorem nn_S : NoN eS := ⟨fun _ _ => rfl, fun _ _ => rfl, fun _ => rfl⟩
theorem nn_T {e : α → D} : NoN (eT e) := ⟨fun _ _ => rfl, fun _ _ => rfl, fun _ => rfl⟩
theorem nn_L {e : α → D} : NoN (eL e) := ⟨fun _ _ => rfl, fun _ _ => rfl, fun _ => rfl⟩
theorem nn_P2 {e1 : α → D} {e2 : β → D} : NoN (eP2 e1 e2) := ⟨fun _ _ => rfl, fun _ _ => rfl, fun _ => rfl⟩
theorem nn_P3 {e1 : α → D} {e2 : β → D} {e3 : γ → D} : NoN (eP3 e1 e2 e3) := ⟨fun _ _ => rfl, fun _ _ => rfl, fun _ => rfl⟩
theorem nn_P4 {e1 : α → D} {e2 : β → D} {e3 : γ → D} {e4 : δ → D} : NoN (eP4 e1 e2 e3 e4) := ⟨fun _ _ => rfl, fun _ _ => rfl, fun _ => rfl⟩
theorem eq_O {e : α → D} [DecidableEq α] {k : Nat} (h : EqE e k) (q : NoN e) : EqE (eO e) (k + 1) := ⟨fun n hn a b => by
  obtain ⟨m, rfl⟩ : ∃ m, n = m + 1 := ⟨n - 1, by omega⟩
  cases a with
  | none => cases b with
    | none => rfl
    | some b => rw [show eO e none = .non from rfl, show eO e (some b) = e b from rfl, q.l]; simp
  | some a => cases b with
    | none => rw [show eO e none = .non from rfl, show eO e (some a) = e a from rfl, q.r]; simp
    | some b => rw [show eO e (some a) = e a from rfl, show eO e (some b) = e b from rfl, h.eq (m + 1) (by omega)]; simp⟩
theorem op_eq {e : α → D} [DecidableEq α] {k : Nat} (h : EqE e k) (l : k ≤ 40 := by decide) : OpP gEq e e false eB fun a b => decide (a = b) := fun a b => by
  unfold gEq; rw [h.eq DEEP l]; rfl
theorem op_ne {e : α → D} [DecidableEq α] {k : Nat} (h : EqE e k) (l : k ≤ 40 := by decide) : OpP gNe e e false eB fun a b => !decide (a = b) := fun a b => by
  unfold gNe; rw [h.eq DEEP l]; rfl
/-- of any two values -/
def eqT (d d' : D) : T Bool := T.ofO (eqDn DEEP d d')
theorem ofO_map {eo : β → D} {t : Bool} {f : α → Hd} {g : α → β} (h : ∀ a, f a = hd t (eo (g a))) (o : Option α) : T.rel (fun h c => h = hd t (eo c)) (T.ofO (o.map f)) ((T.ofO o).bind fun c => .ret (g c)) := by
  cases o with
  | none => exact .fail
  | some a => exact .ret (h a)
theorem ofO_map' {eo : α → D} {t : Bool} {f : α → Hd} (h : ∀ a, f a = hd t (eo a)) (o : Option α) : T.rel (fun h c => h = hd t (eo c)) (T.ofO (o.map f)) (T.ofO o) := by
  cases o with
  | none => exact .fail
  | some a => exact .ret (h a)
theorem op_eqD {e : α → D} {e' : β → D} : OpR gEq e e' false eB fun a b => eqT (e a) (e' b) := fun a b => by
  exact ofO_map' (fun _ => rfl) _
theorem op_neD {e : α → D} {e' : β → D} : OpR gNe e e' false eB fun a b => (eqT (e a) (e' b)).bind fun c => .ret (!c) := fun a b => by
  exact ofO_map (fun _ => rfl) _
theorem op_eqNilL {e : α → D} : OpP gEq (eL e) (fun _ : Unit => .lst []) false eB fun l _ => l.isEmpty := fun a b => by cases a <;> simp [eL, hd]
theorem op_neNilL {e : α → D} : OpP gNe (eL e) (fun _ : Unit => .lst []) false eB fun l _ => !l.isEmpty := fun a b => by cases a <;> simp [eL, hd]
theorem op_eqNilT {e : α → D} : OpP gEq (eT e) (fun _ : Unit => .tup []) false eB fun l _ => l.isEmpty := fun a b => by cases a <;> simp [eT, hd]
theorem op_neNilT {e : α → D} : OpP gNe (eT e) (fun _ : Unit => .tup []) false eB fun l _ => !l.isEmpty := fun a b => by
  cases a with
  | nil => rfl
  | cons x l => simp [eT, hd, gNe, DEEP, eqDn, eqL]

/-! ### order -/
structure OrdE (e : α → D) [DecidableEq α] (lt : α → α → Bool) (dp : Nat) : Prop extends EqE e dp where
  ltE : ∀ n, dp ≤ n → ∀ a b, ltDn n (e a) (e b) = some (lt a b)
  irr : ∀ a, lt a a = false
  pl : ∀ a, plD (e a) = true
  kd : (∀ a, isIntD (e a) = true) ∨ (∀ a, isStrD (e a) = true) ∨ ∀ a, isTupD (e a) = true
def ltI (a b : Int) : Bool := decide (a < b)
def ltS (a b : List Nat) : Bool := decide (a < b)
def ltLs [DecidableEq α] (lt : α → α → Bool) : List α → List α → Bool
  | [], [] => false
  | [], _ :: _ => true
  | _ :: _, [] => false
  | x :: xs, y :: ys => if x = y then ltLs lt xs ys else lt x y
def lt2 [DecidableEq α] (l1 : α → α → Bool) (l2 : β → β → Bool) (p q : α × β) : Bool := if p.1 = q.1 then l2 p.2 q.2 else l1 p.1 q.1
theorem or_I : OrdE eI ltI 1 := { eq_I with
  ltE := fun n h a b => by
    obtain ⟨m, rfl⟩ : ∃ m, n = m + 1 := ⟨n - 1, by omega⟩
    rfl
  irr := fun a => by simp [ltI]
  pl := fun _ => rfl
  kd := .inl fun _ => rfl }
theorem or_S : OrdE eS ltS 1 := { eq_S with
  ltE := fun n h a b => by
    obtain ⟨m, rfl⟩ : ∃ m, n = m + 1 := ⟨n - 1, by omega⟩
    rfl
  irr := fun a => by simp [ltS]
  pl := fun _ => rfl
  kd := .inr (.inl fun _ => rfl) }
theorem ltL_e {e : α → D} [DecidableEq α] {lt : α → α → Bool} {n : Nat} (h : ∀ a b, eqDn n (e a) (e b) = some (decide (a = b))) (h' : ∀ a b, ltDn n (e a) (e b) = some (lt a b)) : ∀ xs ys : List α, ltL (eqDn n) (ltDn n) (xs.map e) (ys.map e) = some (ltLs lt xs ys)
  | [], [] => rfl
  | [], _ :: _ => rfl
  | _ :: _, [] => rfl
  | x :: xs, y :: ys => by
    simp only [List.map_cons, ltL, h x y, ltL_e h h' xs ys, ltLs, h' x y]
    by_cases q : x = y
    · subst q; simp
    · simp [q]
theorem ltLs_irr [DecidableEq α] {lt : α → α → Bool} : ∀ a : List α, ltLs lt a a = false
  | [] => rfl
  | x :: a => by simp [ltLs, ltLs_irr a]
theorem plDs_map {e : α → D} (h : ∀ a, plD (e a) = true) : ∀ l : List α, plDs (l.map e) = true
  | [] => rfl
  | x :: l => by simp [plDs, h x, plDs_map h l]
theorem or_T {e : α → D} [DecidableEq α] {lt : α → α → Bool} {k : Nat} (h : OrdE e lt k) : OrdE (eT e) (ltLs lt) (k + 1) := { eq_T h.toEqE with
  ltE := fun n hn a b => by
    obtain ⟨m, rfl⟩ : ∃ m, n = m + 1 := ⟨n - 1, by omega⟩
    show ltL (eqDn m) (ltDn m) _ _ = _
    exact ltL_e (h.eq m (by omega)) (h.ltE m (by omega)) a b
  irr := ltLs_irr
  pl := fun a => plDs_map h.pl a
  kd := .inr (.inr fun _ => rfl) }
theorem or_P2 {e1 : α → D} {e2 : β → D} [DecidableEq α] [DecidableEq β] {l1 : α → α → Bool} {l2 : β → β → Bool} {k : Nat} (h1 : OrdE e1 l1 k) (h2 : OrdE e2 l2 k) : OrdE (eP2 e1 e2) (lt2 l1 l2) (k + 1) := { eq_P2 h1.toEqE h2.toEqE with
  ltE := fun n hn a b => by
    obtain ⟨m, rfl⟩ : ∃ m, n = m + 1 := ⟨n - 1, by omega⟩
    show ltL (eqDn m) (ltDn m) _ _ = _
    simp only [ltL, h1.eq m (by omega), h2.eq m (by omega), h1.ltE m (by omega), h2.ltE m (by omega), lt2]
    by_cases q : a.1 = b.1
    · simp only [q, decide_true, if_true]
      by_cases q2 : a.2 = b.2
      · simp [q2, h2.irr]
      · simp [q2]
    · simp only [q, decide_false, if_false]
      by_cases q2 : a.2 = b.2 <;> simp [q2]
  irr := fun a => by simp [lt2, h2.irr]
  pl := fun a => by simp [eP2, plD, plDs, h1.pl, h2.pl]
  kd := .inr (.inr fun _ => rfl) }
theorem or_P3 {e1 : α → D} {e2 : β → D} {e3 : γ → D} [DecidableEq α] [DecidableEq β] [DecidableEq γ] {l1 : α → α → Bool} {l2 : β → β → Bool} {l3 : γ → γ → Bool} {k : Nat} (h1 : OrdE e1 l1 k) (h2 : OrdE e2 l2 k) (h3 : OrdE e3 l3 k) : OrdE (eP3 e1 e2 e3) (lt2 l1 (lt2 l2 l3)) (k + 1) := { eq_P3 h1.toEqE h2.toEqE h3.toEqE with
  ltE := fun n hn a b => by
    obtain ⟨m, rfl⟩ : ∃ m, n = m + 1 := ⟨n - 1, by omega⟩
    show ltL (eqDn m) (ltDn m) _ _ = _
    simp only [ltL, h1.eq m (by omega), h2.eq m (by omega), h3.eq m (by omega), h1.ltE m (by omega), h2.ltE m (by omega), h3.ltE m (by omega), lt2]
    by_cases q3 : a.2.2 = b.2.2 <;> by_cases q2 : a.2.1 = b.2.1 <;> by_cases q : a.1 = b.1 <;> simp [q, q2, q3, h3.irr]
  irr := fun a => by simp [lt2, h3.irr]
  pl := fun a => by simp [eP3, plD, plDs, h1.pl, h2.pl, h3.pl]
  kd := .inr (.inr fun _ => rfl) }
theorem OrdE.le {e : α → D} [DecidableEq α] {lt : α → α → Bool} {k k' : Nat} (h : OrdE e lt k) (l : k ≤ k') : OrdE e lt k' := { h.toEqE.le l with
  ltE := fun n hn => h.ltE n (by omega)
  irr := h.irr
  pl := h.pl
  kd := h.kd }
theorem OrdE.row {e : α → D} [DecidableEq α] {lt : α → α → Bool} {k : Nat} (h : OrdE e lt k) (a b : α) : rowB (enc (e a)) (enc (e b)) = lt a b := ltDn_row (h.ltE k (Nat.le_refl _) a b)
theorem op_lt {e : α → D} [DecidableEq α] {lt : α → α → Bool} {k : Nat} (h : OrdE e lt k) (l : k ≤ 40 := by decide) : OpP gLt e e false eB lt := fun a b => by
  unfold gLt; rw [h.ltE DEEP l]; rfl
/-- sorted by an order -/
def srtBy (lt : α → α → Bool) (l : List α) : List α := l.mergeSort fun a b => !lt b a
theorem sorted_e {e : α → D} [DecidableEq α] {lt : α → α → Bool} {k : Nat} (h : OrdE e lt k) (l : k ≤ 40) (xs : List α) : sortOk (xs.map e) = true ∧ sortL (xs.map e) = (srtBy lt xs).map e := by
  constructor
  · unfold sortOk
    rw [plDs_map h.pl]
    simp only [Bool.true_and, Bool.and_eq_true, Bool.or_eq_true]
    refine ⟨?_, .inr ?_⟩
    · rcases h.kd with q | q | q
      · exact .inl (.inl (List.all_eq_true.mpr fun x m => by obtain ⟨a, _, rfl⟩ := List.mem_map.mp m; exact q a))
      · exact .inl (.inr (List.all_eq_true.mpr fun x m => by obtain ⟨a, _, rfl⟩ := List.mem_map.mp m; exact q a))
      · exact .inr (List.all_eq_true.mpr fun x m => by obtain ⟨a, _, rfl⟩ := List.mem_map.mp m; exact q a)
    · rw [List.all_eq_true]
      intro x m
      obtain ⟨a, _, rfl⟩ := List.mem_map.mp m
      rw [List.all_eq_true]
      intro y m
      obtain ⟨b, _, rfl⟩ := List.mem_map.mp m
      rw [h.ltE DEEP l]; rfl
  · unfold sortL srtBy
    refine (PySem.W.sort_maps e fun a _ b _ => ?_).symm
    rw [h.row]
def minT (lt : α → α → Bool) : List α → T α
  | [] => .fail
  | x :: xs => .ret (xs.foldl (fun a y => if lt y a then y else a) x)
def maxT : List Int → T Int
  | [] => .fail
  | x :: xs => .ret (xs.foldl max x)
theorem min_e {e : α → D} [DecidableEq α] {lt : α → α → Bool} {k : Nat} (h : OrdE e lt k) (l : k ≤ 40) : ∀ xs : List α, T.rel (fun h c => h = hd false (e c)) (T.ofO (minD (.lst (xs.map e)))) (minT lt xs)
  | [] => .fail
  | x :: xs => by
    have ok : minOk ((x :: xs).map e) = true := by
      unfold minOk
      rw [List.all_eq_true]
      intro x m
      obtain ⟨a, _, rfl⟩ := List.mem_map.mp m
      rw [List.all_eq_true]
      intro y m
      obtain ⟨b, _, rfl⟩ := List.mem_map.mp m
      rw [h.ltE DEEP l]; rfl
    have go : ∀ (ys : List α) (x : α), minL (e x) (ys.map e) = e (ys.foldl (fun a y => if lt y a then y else a) x) := fun ys => by
      induction ys with
      | nil => intro x; rfl
      | cons y ys ih =>
        intro x
        show minL (if rowB (enc (e y)) (enc (e x)) then e y else e x) (ys.map e) = _
        rw [h.row, List.foldl_cons, ← ih]
        split <;> rfl
    have : minD (.lst ((x :: xs).map e)) = some (.val (minL (e x) (xs.map e))) := by
      show (if minOk (e x :: xs.map e) = true then _ else _) = _
      rw [if_pos (show minOk (e x :: xs.map e) = true from ok)]
    rw [this, go]
    exact .ret rfl
theorem ints_e : ∀ l : List Int, intsO (l.map eI) = some l
  | [] => rfl
  | x :: l => by simp [intsO, ints_e l]
theorem bls_e : ∀ l : List Bool, blsO (l.map eB) = some l
  | [] => rfl
  | x :: l => by simp [blsO, bls_e l]
theorem max_e : ∀ xs : List Int, T.rel (fun h c => h = hd false (eI c)) (T.ofO (maxD (.lst (xs.map eI)))) (maxT xs)
  | [] => .fail
  | x :: xs => by
    have : maxD (.lst ((x :: xs).map eI)) = some (.val (.int (xs.foldl max x))) := by
      simp [maxD, seqD, intsO, ints_e xs]
    rw [this]
    exact .ret rfl

/-! ### within -/
theorem anyO_e {e : α → D} [DecidableEq α] {n : Nat} (h : ∀ a b, eqDn n (e a) (e b) = some (decide (a = b))) (x : α) : ∀ l : List α, anyO (fun y => eqDn n y (e x)) (l.map e) = some (decide (x ∈ l))
  | [] => rfl
  | y :: l => by
    simp only [List.map_cons, anyO, h y x, anyO_e h x l]
    by_cases q : y = x
    · subst q; simp
    · have q' : ¬ x = y := fun e => q e.symm
      simp [q, q']
theorem op_inT {e : α → D} [DecidableEq α] {k : Nat} (h : EqE e k) (l : k ≤ 40 := by decide) : OpP gIn e (eT e) false eB fun a b => decide (a ∈ b) := fun a b => by
  show Option.map _ (anyO (fun x => eqDn DEEP x (e a)) (b.map e)) = _
  rw [anyO_e (h.eq DEEP l)]; rfl
theorem op_inL {e : α → D} [DecidableEq α] {k : Nat} (h : EqE e k) (l : k ≤ 40 := by decide) : OpP gIn e (eL e) false eB fun a b => decide (a ∈ b) := fun a b => by
  show Option.map _ (anyO (fun x => eqDn DEEP x (e a)) (b.map e)) = _
  rw [anyO_e (h.eq DEEP l)]; rfl
theorem op_niT {e : α → D} [DecidableEq α] {k : Nat} (h : EqE e k) (l : k ≤ 40 := by decide) : OpP gNi e (eT e) false eB fun a b => !decide (a ∈ b) := fun a b => by
  show Option.map _ (anyO (fun x => eqDn DEEP x (e a)) (b.map e)) = _
  rw [anyO_e (h.eq DEEP l)]; rfl
theorem op_niL {e : α → D} [DecidableEq α] {k : Nat} (h : EqE e k) (l : k ≤ 40 := by decide) : OpP gNi e (eL e) false eB fun a b => !decide (a ∈ b) := fun a b => by
  show Option.map _ (anyO (fun x => eqDn DEEP x (e a)) (b.map e)) = _
  rw [anyO_e (h.eq DEEP l)]; rfl
/-- of any values -/
def inT (d d' : D) : T Bool := T.ofO (inO d d')
theorem op_inD {e : α → D} {e' : β → D} : OpR gIn e e' false eB fun a b => inT (e a) (e' b) := fun a b => by
  exact ofO_map' (fun _ => rfl) _
theorem op_niD {e : α → D} {e' : β → D} : OpR gNi e e' false eB fun a b => (inT (e a) (e' b)).bind fun c => .ret (!c) := fun a b => by
  exact ofO_map (fun _ => rfl) _
def idxT [DecidableEq α] (l : List α) (x : α) : T Int := if l.length ≤ 16777216 ∧ x ∈ l then .ret (l.idxOf x : Nat) else .fail
theorem idxO_e {e : α → D} [DecidableEq α] {n : Nat} (h : ∀ a b, eqDn n (e a) (e b) = some (decide (a = b))) (x : α) : ∀ l : List α, x ∈ l → idxO (fun y => eqDn n y (e x)) (l.map e) = some (l.idxOf x)
  | [], m => by simp at m
  | y :: l, m => by
    simp only [List.map_cons, idxO, h y x]
    by_cases q : y = x
    · subst q; simp
    · have m' : x ∈ l := by
        rcases List.mem_cons.mp m with rfl | m
        · exact (q rfl).elim
        · exact m
      have q' : (y == x) = false := beq_eq_false_iff_ne.mpr q
      simp [q, idxO_e h x l m', List.idxOf_cons, q']

/-! ### numbers -/
def mulT (a b : Int) : T Int := if a.natAbs < 18446744073709551616 ∨ b.natAbs < 18446744073709551616 then .ret (a * b) else .fail
def divT (a b : Int) : T Int := if 0 < b ∧ b < 1073741824 then .ret (a / b) else .fail
def modT (a b : Int) : T Int := if 0 < b then .ret (a % b) else .fail
def powT (i j : Int) : T Int := if 0 ≤ j ∧ (Builtin.Int.intBits i : Int) * j ≤ 134217728 then .ret (i ^ j.toNat) else .fail
def shlT (i j : Int) : T Int := if 0 ≤ j ∧ j ≤ 1000000 ∧ i.natAbs < 18446744073709551616 then .ret (i * 2 ^ j.toNat) else .fail
def shrT (i j : Int) : T Int := if 0 ≤ j then .ret (i / 2 ^ j.toNat) else .fail
theorem op_add : OpP gAdd eI eI false eI fun a b => a + b := fun _ _ => rfl
theorem op_sub : OpP (gI iSub) eI eI false eI fun a b => a - b := fun _ _ => rfl
theorem op_mul : OpR gMul eI eI false eI mulT := fun a b => by
  show T.rel _ (T.ofO (Option.map Hd.val (iMul a b))) _
  unfold iMul mulT
  split
  · exact .ret rfl
  · exact .fail
theorem op_div : OpR (gI iDiv) eI eI false eI divT := fun a b => by
  show T.rel _ (T.ofO (Option.map Hd.val (iDiv a b))) _
  unfold iDiv divT
  split
  · exact .ret rfl
  · exact .fail
theorem op_mod : OpR (gI iMod) eI eI false eI modT := fun a b => by
  show T.rel _ (T.ofO (Option.map Hd.val (iMod a b))) _
  unfold iMod modT
  split
  · exact .ret rfl
  · exact .fail
theorem op_pow : OpR (gI iPow) eI eI false eI powT := fun a b => by
  show T.rel _ (T.ofO (Option.map Hd.val (iPow a b))) _
  unfold iPow powT
  split
  · exact .ret rfl
  · exact .fail
theorem op_shl : OpR (gI iShl) eI eI false eI shlT := fun a b => by
  show T.rel _ (T.ofO (Option.map Hd.val (iShl a b))) _
  unfold iShl shlT
  split
  · exact .ret rfl
  · exact .fail
theorem op_shr : OpR (gI iShr) eI eI false eI shrT := fun a b => by
  show T.rel _ (T.ofO (Option.map Hd.val (iShr a b))) _
  unfold iShr shrT
  split
  · exact .ret rfl
  · exact .fail
theorem op_and : OpP (gI iAnd) eI eI false eI fun a b => Builtin.bitAnd a b := fun _ _ => rfl
theorem op_xor : OpP (gI iXor) eI eI false eI fun a b => Builtin.bitXor a b := fun _ _ => rfl
theorem op_le : OpP (gI iLe) eI eI false eB fun a b => decide (a ≤ b) := fun _ _ => rfl
theorem op_gt : OpP (gI iGt) eI eI false eB fun a b => decide (b < a) := fun _ _ => rfl
theorem op_ge : OpP (gI iGe) eI eI false eB fun a b => decide (b ≤ a) := fun _ _ => rfl
theorem op_ltI : OpP gLt eI eI false eB fun a b => decide (a < b) := fun _ _ => rfl
theorem un_neg : UnP gNeg eI false eI fun a => -a := fun _ => rfl

/-! ### rows -/
def catT (a b : List α) : T (List α) := if a.length + b.length ≤ 16777216 then .ret (a ++ b) else .fail
theorem op_catT {e : α → D} : OpR gAdd (eT e) (eT e) false (eT e) catT := fun a b => by
  show T.rel _ (T.ofO (if (a.map e).length + (b.map e).length ≤ 16777216 then _ else _)) _
  unfold catT
  rw [List.length_map, List.length_map]
  split
  · exact .ret (by simp [eT, hd])
  · exact .fail
theorem op_catL {e : α → D} : OpR gAdd (eL e) (eL e) true (eL e) catT := fun a b => by
  show T.rel _ (T.ofO (if (a.map e).length + (b.map e).length ≤ 16777216 then _ else _)) _
  unfold catT
  rw [List.length_map, List.length_map]
  split
  · exact .ret (by simp [eL, hd])
  · exact .fail
def repLT (a : List α) (k : Int) : T (List α) := if 0 ≤ k ∧ k ≤ 16777216 ∧ a.length * k.toNat ≤ 16777216 then .ret (List.replicate k.toNat a).flatten else .fail
theorem op_repL {e : α → D} : OpR gMul (eL e) eI true (eL e) repLT := fun a b => by
  show T.rel _ (T.ofO (if 0 ≤ b ∧ b ≤ 16777216 ∧ (a.map e).length * b.toNat ≤ 16777216 then _ else _)) _
  unfold repLT
  rw [List.length_map]
  split
  · exact .ret (by simp [eL, hd])
  · exact .fail
theorem atI_map {e : α → β} (l : List α) (i : Int) : atI (l.map e) i = (atI l i).map e := by
  unfold atI
  rw [List.length_map]
  cases ixN l.length i with
  | none => rfl
  | some j => simp
def ixT (l : List α) (i : Int) : T α := T.ofO (atI l i)
theorem op_ixT {e : α → D} : OpR gIx (eT e) eI false e ixT := fun a b => by
  show T.rel _ (T.ofO ((atI (a.map e) b).map Hd.val)) (T.ofO (atI a b))
  rw [atI_map, Option.map_map]
  exact ofO_map' (fun _ => rfl) _
theorem op_ixL {e : α → D} : OpR gIx (eL e) eI false e ixT := fun a b => by
  show T.rel _ (T.ofO ((atI (a.map e) b).map Hd.val)) (T.ofO (atI a b))
  rw [atI_map, Option.map_map]
  exact ofO_map' (fun _ => rfl) _
theorem op_ixScr : OpR gIx eScr eI false eI ixT := fun a b => by
  show T.rel _ (T.ofO ((atI a b).map fun n => Hd.val (.int n))) (T.ofO (atI a b))
  exact ofO_map' (fun _ => rfl) _
def valO : Option Hd → T D
  | some (.val d) => .ret d
  | some (.tmp d) => .fail
  | _ => .fail
theorem valO_rel (o : Option Hd) : T.rel (fun h c => h = hd false (eD c)) (T.ofO o) (valO o) := by
  cases o with
  | none => exact .fail
  | some h => cases h with
    | val d => exact .ret rfl
    | tmp d => exact .fail
    | slot i => exact .fail
theorem op_D {g : D → D → Option Hd} {e : α → D} {e' : β → D} : OpR g e e' false eD fun a b => valO (g (e a) (e' b)) := fun a b => valO_rel _
theorem op_p20 {e1 : α → D} {e2 : β → D} : OpP gIx (eP2 e1 e2) (fun _ : Unit => .int 0) false e1 fun p _ => p.1 := fun _ _ => rfl
theorem op_p21 {e1 : α → D} {e2 : β → D} : OpP gIx (eP2 e1 e2) (fun _ : Unit => .int 1) false e2 fun p _ => p.2 := fun _ _ => rfl
theorem op_p30 {e1 : α → D} {e2 : β → D} {e3 : γ → D} : OpP gIx (eP3 e1 e2 e3) (fun _ : Unit => .int 0) false e1 fun p _ => p.1 := fun _ _ => rfl
theorem op_p31 {e1 : α → D} {e2 : β → D} {e3 : γ → D} : OpP gIx (eP3 e1 e2 e3) (fun _ : Unit => .int 1) false e2 fun p _ => p.2.1 := fun _ _ => rfl
theorem op_p32 {e1 : α → D} {e2 : β → D} {e3 : γ → D} : OpP gIx (eP3 e1 e2 e3) (fun _ : Unit => .int 2) false e3 fun p _ => p.2.2 := fun _ _ => rfl
theorem op_p40 {e1 : α → D} {e2 : β → D} {e3 : γ → D} {e4 : δ → D} : OpP gIx (eP4 e1 e2 e3 e4) (fun _ : Unit => .int 0) false e1 fun p _ => p.1 := fun _ _ => rfl
theorem op_p41 {e1 : α → D} {e2 : β → D} {e3 : γ → D} {e4 : δ → D} : OpP gIx (eP4 e1 e2 e3 e4) (fun _ : Unit => .int 1) false e2 fun p _ => p.2.1 := fun _ _ => rfl
theorem op_p42 {e1 : α → D} {e2 : β → D} {e3 : γ → D} {e4 : δ → D} : OpP gIx (eP4 e1 e2 e3 e4) (fun _ : Unit => .int 2) false e3 fun p _ => p.2.2.1 := fun _ _ => rfl
theorem op_p43 {e1 : α → D} {e2 : β → D} {e3 : γ → D} {e4 : δ → D} : OpP gIx (eP4 e1 e2 e3 e4) (fun _ : Unit => .int 3) false e4 fun p _ => p.2.2.2 := fun _ _ => rfl
theorem op_isO {e : α → D} (h : NoN e) : OpP gIs (eO e) eN false eB fun o _ => o.isNone := fun a _ => by
  cases a with
  | none => rfl
  | some a => show Option.map _ (isN (e a)) = _; rw [h.is]; rfl
theorem op_isnO {e : α → D} (h : NoN e) : OpP gIsN (eO e) eN false eB fun o _ => o.isSome := fun a _ => by
  cases a with
  | none => rfl
  | some a => show Option.map _ (isN (e a)) = _; rw [h.is]; rfl
def isNT (d : D) : T Bool := T.ofO (isN d)
theorem op_isD : OpR gIs eD eN false eB fun d _ => isNT d := fun d _ => by
  exact ofO_map' (fun _ => rfl) _
theorem op_isnD : OpR gIsN eD eN false eB fun d _ => (isNT d).bind fun c => .ret (!c) := fun d _ => by
  exact ofO_map (fun _ => rfl) _
theorem op_isB : OpP gIs eB eB false eB fun a b => a == b := fun _ _ => rfl
theorem op_isnB : OpP gIsN eB eB false eB fun a b => !(a == b) := fun _ _ => rfl
/-- None on one side: of any value, a bool too -/
theorem op_isBD : OpR gIs eD eB false eB fun d b => match d with | .bl a => .ret (a == b) | _ => .fail := fun d b => by
  cases d with
  | bl a => exact .ret rfl
  | _ => exact .fail
theorem op_isnBD : OpR gIsN eD eB false eB fun d b => match d with | .bl a => .ret (!(a == b)) | _ => .fail := fun d b => by
  cases d with
  | bl a => exact .ret rfl
  | _ => exact .fail

/-! ### built in -/
def cutL (xs : List α) (lo hi : Option Int) : List α := (xs.drop (HT.sIx xs.length 0 lo)).take (HT.sIx xs.length xs.length hi - HT.sIx xs.length 0 lo)
theorem cut_map (e : α → D) (xs : List α) (lo hi : Option Int) : cutD (xs.map e) lo hi = (cutL xs lo hi).map e := by
  unfold cutD cutL
  rw [List.length_map, List.map_take, List.map_drop]
abbrev a1 (e : α → D) : α × Unit → List D := fun p => e p.1 :: []
abbrev a2 (e : α → D) (e' : β → D) : α × β × Unit → List D := fun p => e p.1 :: e' p.2.1 :: []
abbrev a3 (e : α → D) (e' : β → D) (e'' : γ → D) : α × β × γ × Unit → List D := fun p => e p.1 :: e' p.2.1 :: e'' p.2.2.1 :: []
theorem fn_lenT {e : α → D} : FnP (g1 lenD) (a1 (eT e)) false eI fun p => (p.1.length : Int) := fun p => by simp [a1, eT, hd, eI]
theorem fn_lenL {e : α → D} : FnP (g1 lenD) (a1 (eL e)) false eI fun p => (p.1.length : Int) := fun p => by simp [a1, eL, hd, eI]
theorem fn_lenScr : FnP (g1 lenD) (a1 eScr) false eI fun p => (p.1.length : Int) := fun p => rfl
def intO : Option Hd → T Int
  | some (.val (.int i)) => .ret i
  | _ => .fail
theorem intO_rel (o : Option Hd) : T.rel (fun h c => h = hd false (eI c)) (T.ofO o) (intO o) := by
  cases o with
  | none => exact .fail
  | some h => cases h with
    | val d => cases d with
      | int i => exact .ret rfl
      | _ => exact .fail
    | tmp d => exact .fail
    | slot i => exact .fail
theorem fn_intO {g : List D → Option Hd} {es : γ → List D} : FnR g es false eI fun p => intO (g (es p)) := fun p => intO_rel _
theorem fn_valO {g : List D → Option Hd} {es : γ → List D} : FnR g es false eD fun p => valO (g (es p)) := fun p => valO_rel _
theorem fn_sumT : FnP (g1 sumD) (a1 (eT eI)) false eI fun p => p.1.sum := fun p => by
  show Option.map _ (intsO (p.1.map eI)) = _; rw [ints_e]; rfl
theorem fn_sumL : FnP (g1 sumD) (a1 (eL eI)) false eI fun p => p.1.sum := fun p => by
  show Option.map _ (intsO (p.1.map eI)) = _; rw [ints_e]; rfl
theorem fn_allL : FnP (g1 allD) (a1 (eL eB)) false eB fun p => p.1.all id := fun p => by
  show Option.map _ (blsO (p.1.map eB)) = _; rw [bls_e]; rfl
theorem fn_anyL : FnP (g1 anyD) (a1 (eL eB)) false eB fun p => p.1.any id := fun p => by
  show Option.map _ (blsO (p.1.map eB)) = _; rw [bls_e]; rfl
theorem fn_allT : FnP (g1 allD) (a1 (eT eB)) false eB fun p => p.1.all id := fun p => by
  show Option.map _ (blsO (p.1.map eB)) = _; rw [bls_e]; rfl
theorem fn_anyT : FnP (g1 anyD) (a1 (eT eB)) false eB fun p => p.1.any id := fun p => by
  show Option.map _ (blsO (p.1.map eB)) = _; rw [bls_e]; rfl
theorem fn_min2 : FnP (gI2 min) (a2 eI eI) false eI fun p => min p.1 p.2.1 := fun _ => rfl
theorem fn_max2 : FnP (gI2 max) (a2 eI eI) false eI fun p => max p.1 p.2.1 := fun _ => rfl
theorem fn_min3 : FnP (gI3 fun i j k => min (min i j) k) (a3 eI eI eI) false eI fun p => min (min p.1 p.2.1) p.2.2.1 := fun _ => rfl
theorem fn_max3 : FnP (gI3 fun i j k => max (max i j) k) (a3 eI eI eI) false eI fun p => max (max p.1 p.2.1) p.2.2.1 := fun _ => rfl
theorem fn_minL {e : α → D} [DecidableEq α] {lt : α → α → Bool} {k : Nat} (h : OrdE e lt k) (l : k ≤ 40 := by decide) : FnR (g1 minD) (a1 (eL e)) false e fun p => minT lt p.1 := fun p => min_e h l p.1
theorem fn_minT {e : α → D} [DecidableEq α] {lt : α → α → Bool} {k : Nat} (h : OrdE e lt k) (l : k ≤ 40 := by decide) : FnR (g1 minD) (a1 (eT e)) false e fun p => minT lt p.1 := fun p => min_e h l p.1
theorem fn_maxL : FnR (g1 maxD) (a1 (eL eI)) false eI fun p => maxT p.1 := fun p => max_e p.1
theorem fn_maxT : FnR (g1 maxD) (a1 (eT eI)) false eI fun p => maxT p.1 := fun p => max_e p.1
theorem fn_sortL {e : α → D} [DecidableEq α] {lt : α → α → Bool} {k : Nat} (h : OrdE e lt k) (l : k ≤ 40 := by decide) : FnP (g1 sortedD) (a1 (eL e)) true (eL e) fun p => srtBy lt p.1 := fun p => by
  obtain ⟨h1, h2⟩ := sorted_e h l p.1
  show (if sortOk (p.1.map e) = true then some (Hd.tmp (.lst (sortL (p.1.map e)))) else none) = _
  rw [if_pos h1, h2]; rfl
theorem fn_sortT {e : α → D} [DecidableEq α] {lt : α → α → Bool} {k : Nat} (h : OrdE e lt k) (l : k ≤ 40 := by decide) : FnP (g1 sortedD) (a1 (eT e)) true (eL e) fun p => srtBy lt p.1 := fun p => by
  obtain ⟨h1, h2⟩ := sorted_e h l p.1
  show (if sortOk (p.1.map e) = true then some (Hd.tmp (.lst (sortL (p.1.map e)))) else none) = _
  rw [if_pos h1, h2]; rfl
theorem fn_listL {e : α → D} : FnP (g1 listD) (a1 (eL e)) true (eL e) fun p => p.1 := fun _ => rfl
theorem fn_listT {e : α → D} : FnP (g1 listD) (a1 (eT e)) true (eL e) fun p => p.1 := fun _ => rfl
theorem fn_listScr : FnP (g1 listD) (a1 eScr) true (eL eI) fun p => p.1 := fun _ => rfl
theorem fn_tupleL {e : α → D} : FnP (g1 tupleD) (a1 (eL e)) false (eT e) fun p => p.1 := fun _ => rfl
theorem fn_tupleT {e : α → D} : FnP (g1 tupleD) (a1 (eT e)) false (eT e) fun p => p.1 := fun _ => rfl
theorem fn_int : FnP (g1 intD) (a1 eI) false eI fun p => p.1 := fun _ => rfl
def ofB (b : Bool) : Int := if b then 1 else 0
theorem fn_intB : FnP (g1 intD) (a1 eB) false eI fun p => ofB p.1 := fun _ => rfl
theorem fn_abs : FnP (g1 absD) (a1 eI) false eI fun p => (p.1.natAbs : Int) := fun p => by
  show some (Hd.val (.int (if p.1 < 0 then -p.1 else p.1))) = some (Hd.val (.int (p.1.natAbs : Int)))
  congr 3
  split <;> omega
def isiT (s : String) (d : D) : T Bool := T.ofO (gIsi s d)
def unwT : Option α → T α
  | some a => .ret a
  | none => .fail
def repT (f : Bool → Bool) (d d' : D) : T Bool := if repOk d' = true then .ret (f (decide ((toPy d).shown = (toPy d').shown))) else .fail
variable {L L1 L2 L' : List ES} {k k1 k2 : HK} {m m1 m2 : M}
theorem se_rep {f : Bool → Bool} {e1 : α → D} {e2 : β → D} {u1 : T α} {u2 : T β} (a : SE m1 L k1 e1 L1 u1) (b : SE m2 L1 k2 e2 L2 u2) : SE (eRep f m1 m2) L .val eB L2 (u1.bind fun x => if repOk (e1 x) = true then u2.bind fun y => repT f (e1 x) (e2 y) else .fail) := fun env E => by
  unfold eRep
  refine T.rel_bind (a env E) fun r1 x q1 => ?_
  rw [hk_rs q1.1]
  dsimp only
  split
  · refine T.rel_bind (b _ q1.2) fun r2 y q2 => ?_
    rw [hk_rs q2.1]
    dsimp only
    unfold repT
    split
    · exact .ret ⟨rfl, q2.2⟩
    · exact .fail
  · exact .fail
theorem se_unw {e : α → D} {u : T (Option α)} (a : SE m L k (eO e) L' u) : SE m L k e L' (u.bind unwT) := fun env E => by
  have := a env E
  clear a
  generalize m env = t at this
  induction this with
  | fail => exact .fail
  | @ret x y q =>
    cases y with
    | none => exact .fail
    | some y => exact .ret q
  | draw _ ih => exact .draw fun d hd => ih d hd
theorem se_unwP {e : α → D} {x : Option α} (a : SE m L k (eO e) L' (.ret x)) : SE m L k e L' (unwT x) := se_unw a
/-- index of a list -/
theorem se_idx {e : α → D} [DecidableEq α] {kk : Nat} (h : EqE e kk) (l : kk ≤ 40) {ms : MH} {ks : List HK} {u1 : T (List α)} {u2 : T (α × Unit)} (a : SE m L k (eL e) L1 u1) (b : SH ms L1 ks (a1 e) L2 u2) (K : Keeps L1 L2 k.slots := by trivial) : SE (eMt gIdx m ms) L .val eI L2 (u1.bind fun x => u2.bind fun y => idxT x y.1) := fun env E => by
  unfold eMt
  refine T.rel_bind (a env E) fun r0 x q0 => ?_
  rw [hk_rs q0.1]
  refine T.rel_bind (b _ q0.2) fun r y q => ?_
  rw [hk_rs (hk_keep q0.1 q0.2 q.2 K), q.1.rss]
  dsimp only [eL, a1, gIdx]
  unfold idxT
  rw [List.length_map, anyO_e (h.eq DEEP l)]
  by_cases hm : x.length ≤ 16777216 ∧ y.1 ∈ x
  · rw [if_pos hm, if_pos ⟨hm.1, rfl⟩, idxO_e (h.eq DEEP l) _ _ hm.2]
    exact .ret ⟨rfl, q.2⟩
  · rw [if_neg hm]
    exact .fail
def SO (o : MO) (L L' : List ES) (u : T (Option Int)) : Prop := ∀ env, EsOk L env → T.rel (fun r b => r.1 = b ∧ EsOk L' r.2) (o env) u
theorem so_none : SO oNone L L (.ret none) := fun env E => .ret ⟨rfl, E⟩
theorem so_some {u : T Int} (a : SE m L .val eI L' u) : SO (oSome m) L L' (u.bind fun i => .ret (some i)) := fun env E => by
  unfold oSome
  refine T.rel_bind (a env E) fun r x q => ?_
  obtain ⟨h, e⟩ := r
  obtain ⟨q1, q2⟩ := q
  cases q1
  exact .ret ⟨rfl, q2⟩
theorem so_someP {x : Int} (a : SE m L .val eI L' (.ret x)) : SO (oSome m) L L' (.ret (some x)) := so_some a
theorem se_sl {e : α → D} {t : Bool} {eo : γ → D} {f : α → Option Int → Option Int → γ} {lo hi : MO} {u1 : T α} {u2 u3 : T (Option Int)} (o : ∀ a x y, gSl (e a) x y = some (Mi.hd t (eo (f a x y)))) (a : SE m L k e L1 u1) (b : SO lo L1 L2 u2) (c : SO hi L2 L' u3) (K : Keeps L1 L' k.slots := by trivial) : SE (eSl m lo hi) L (kd t) eo L' (u1.bind fun x => u2.bind fun y => u3.bind fun z => .ret (f x y z)) := fun env E => by
  rw [eSl_e]
  refine T.rel_bind (a env E) fun r1 x q1 => T.rel_bind (b _ q1.2) fun r2 y q2 => T.rel_bind (c _ q2.2) fun r3 z q3 => ?_
  rw [hk_rs (hk_keep q1.1 q1.2 q3.2 K)]
  dsimp only
  rw [q2.1, q3.1, o]
  exact .ret ⟨kd_ok, q3.2⟩
theorem se_slP {e : α → D} {t : Bool} {eo : γ → D} {f : α → Option Int → Option Int → γ} {lo hi : MO} {x : α} {y z : Option Int} (o : ∀ a x y, gSl (e a) x y = some (Mi.hd t (eo (f a x y)))) (a : SE m L k e L1 (.ret x)) (b : SO lo L1 L2 (.ret y)) (c : SO hi L2 L' (.ret z)) (K : Keeps L1 L' k.slots := by trivial) : SE (eSl m lo hi) L (kd t) eo L' (.ret (f x y z)) := se_sl o a b c K
theorem sl_T {e : α → D} (a : List α) (x y : Option Int) : gSl (eT e a) x y = some (hd false (eT e (cutL a x y))) := by
  show some (Hd.val (.tup (cutD (a.map e) x y))) = _; rw [cut_map]; rfl
theorem sl_L {e : α → D} (a : List α) (x y : Option Int) : gSl (eL e a) x y = some (hd true (eL e (cutL a x y))) := by
  show some (Hd.tmp (.lst (cutD (a.map e) x y))) = _; rw [cut_map]; rfl
theorem sl_Scr (a : List Int) (x y : Option Int) : gSl (eScr a) x y = some (hd true (eL eI (cutL a x y))) := by
  show some (Hd.tmp (.lst (cutD (a.map .int) x y))) = _; rw [cut_map]; rfl
/-- list(range(n)), tuple(range(n)) -/
def rngL (a b : Int) : List Int := (List.range (b - a).toNat).map fun i => a + (i : Nat)
def rngT (a b : Int) : T (List Int) := if rgOk a b = true then .ret (rngL a b) else .fail
theorem rgD_rng (a b : Int) : rgD a b = (rngL a b).map eI := by
  unfold rgD rngL; rw [List.map_map]; rfl
theorem rg_ok {mk : List D → Hd} {t : Bool} {eo : List Int → D} (h : ∀ l, mk (l.map eI) = hd t (eo l)) (a b : Int) : T.rel (fun h c => h = hd t (eo c)) (T.ofO (rgH mk a b)) (rngT a b) := by
  unfold rgH rngT
  split
  · rw [rgD_rng, h]; exact .ret rfl
  · exact .fail
theorem mk_L (l : List Int) : mkL (l.map eI) = hd true (eL eI l) := rfl
theorem mk_T (l : List Int) : mkT (l.map eI) = hd false (eT eI l) := rfl
def rgK1 (mk : List D → Hd) : Hd × Ev → T (Hd × Ev)
  | (.val (.int n), e) => okH e (rgH mk 0 n)
  | _ => .fail
theorem eRg1_e (mk : List D → Hd) (m : M) (env : Ev) : eRg1 mk m env = (m env).bind (rgK1 mk) := by
  unfold eRg1
  refine congrArg _ (funext fun r => ?_)
  obtain ⟨h, e⟩ := r
  cases h with
  | val d => cases d with
    | int n => show _ = okH e (rgH mk 0 n); dsimp only; cases rgH mk 0 n <;> rfl
    | _ => rfl
  | slot i => rfl
  | tmp d => rfl
theorem se_rg1 {mk : List D → Hd} {t : Bool} {eo : List Int → D} {u : T Int} (h : ∀ l, mk (l.map eI) = hd t (eo l)) (a : SE m L .val eI L' u) : SE (eRg1 mk m) L (kd t) eo L' (u.bind fun n => rngT 0 n) := fun env E => by
  rw [eRg1_e]
  refine T.rel_bind (a env E) fun r x q => ?_
  obtain ⟨h', e⟩ := r
  obtain ⟨q1, q2⟩ := q
  cases q1
  exact okH_rel (rg_ok h 0 x) fun c => ⟨kd_ok, q2⟩
def rgK3 (mk : List D → Hd) (i : Int) : Hd × Ev → T (Hd × Ev)
  | (.val (.int j), e) => okH e (rgH mk i j)
  | _ => .fail
def rgK2 (mk : List D → Hd) (mb : M) : Hd × Ev → T (Hd × Ev)
  | (.val (.int i), e) => (mb e).bind (rgK3 mk i)
  | _ => .fail
theorem eRg2_e (mk : List D → Hd) (ma mb : M) (env : Ev) : eRg2 mk ma mb env = (ma env).bind (rgK2 mk mb) := by
  unfold eRg2
  refine congrArg _ (funext fun r => ?_)
  obtain ⟨h, e⟩ := r
  cases h with
  | val d => cases d with
    | int n =>
      refine congrArg (T.bind (mb e)) (funext fun r => ?_)
      obtain ⟨h, e⟩ := r
      cases h with
      | val d => cases d with
        | int n' => show _ = okH e (rgH mk n n'); dsimp only; cases rgH mk n n' <;> rfl
        | _ => rfl
      | slot i => rfl
      | tmp d => rfl
    | _ => rfl
  | slot i => rfl
  | tmp d => rfl
theorem se_rg2 {mk : List D → Hd} {t : Bool} {eo : List Int → D} {u1 u2 : T Int} (h : ∀ l, mk (l.map eI) = hd t (eo l)) (a : SE m1 L .val eI L1 u1) (b : SE m2 L1 .val eI L2 u2) : SE (eRg2 mk m1 m2) L (kd t) eo L2 (u1.bind fun x => u2.bind fun y => rngT x y) := fun env E => by
  rw [eRg2_e]
  refine T.rel_bind (a env E) fun r x q => ?_
  obtain ⟨h', e⟩ := r
  obtain ⟨q1, q2⟩ := q
  cases q1
  refine T.rel_bind (b _ q2) fun r y q => ?_
  obtain ⟨h', e⟩ := r
  obtain ⟨q1, q2⟩ := q
  cases q1
  exact okH_rel (rg_ok h x y) fun c => ⟨kd_ok, q2⟩
end
end Mi
set_option Elab.async false
set_option linter.all false
set_option maxRecDepth 100000
set_option maxHeartbeats 1000000
namespace Mi
open PySem PySem.Spec PyProof.Rows L2

@[simp] theorem T.bind_ret {α : Type} (t : T α) : t.bind (fun r => T.ret r) = t := se_as.T.bind_ret t
/-! ### plain loops -/
section
variable {α β γ σ τ ρ : Type}
def mapT (f : α → T β) : List α → T (List β)
  | [] => .ret []
  | x :: xs => (f x).bind fun y => (mapT f xs).bind fun ys => .ret (y :: ys)
def filT (p : α → T Bool) (f : α → T β) : List α → T (List β)
  | [] => .ret []
  | x :: xs => (p x).bind fun b => if b then (f x).bind fun y => (filT p f xs).bind fun ys => .ret (y :: ys) else filT p f xs
def forT (f : σ → α → T σ) : σ → List α → T σ
  | s, [] => .ret s
  | s, x :: xs => (f s x).bind fun s' => forT f s' xs
inductive Ctl (σ τ ρ : Type) where
  | nx (s : σ)
  | bk (t : τ)
  | ct (t : τ)
  | rt (r : ρ)
def Ctl.loop (k : σ → T (Ctl σ τ ρ)) : Ctl σ σ ρ → T (Ctl σ τ ρ)
  | .nx s => k s
  | .ct s => k s
  | .bk s => .ret (.nx s)
  | .rt r => .ret (.rt r)
def forC (f : σ → α → T (Ctl σ σ ρ)) : σ → List α → T (Ctl σ τ ρ)
  | s, [] => .ret (.nx s)
  | s, x :: xs => (f s x).bind (Ctl.loop fun s' => forC f s' xs)
def whileT (c : σ → T Bool) (f : σ → T σ) : Nat → σ → T σ
  | 0, _ => .fail
  | n + 1, s => (c s).bind fun b => if b then (f s).bind fun s' => whileT c f n s' else .ret s
def whileC (c : σ → T Bool) (f : σ → T (Ctl σ σ ρ)) : Nat → σ → T (Ctl σ τ ρ)
  | 0, _ => .fail
  | n + 1, s => (c s).bind fun b => if b then (f s).bind (Ctl.loop fun s' => whileC c f n s') else .ret (.nx s)
/-- what follows, where nothing jumps -/
def Ctl.k (f : σ → T (Ctl γ τ ρ)) : Ctl σ τ ρ → T (Ctl γ τ ρ)
  | .nx s => f s
  | .bk t => .ret (.bk t)
  | .ct t => .ret (.ct t)
  | .rt r => .ret (.rt r)
def Ctl.t (f : σ → T ρ) : Ctl σ Unit ρ → T ρ
  | .nx s => f s
  | .rt r => .ret r
  | _ => .fail
/-- of a loop that only breaks -/
def Ctl.s : Ctl σ Unit Unit → T σ
  | .nx s => .ret s
  | _ => .fail

/-! ### targets, what is walked -/
def TgOk (g : GM) (L : List ES) (d : D) (L' : List ES) : Prop := ∀ env, EsOk L env → ∃ env', g d env = some env' ∧ EsOk L' env'
def TgsOk (gs : List D → Ev → Option Ev) (L : List ES) (ds : List D) (L' : List ES) : Prop := ∀ env, EsOk L env → ∃ env', gs ds env = some env' ∧ EsOk L' env'
variable {L L1 L2 L3 L' Lb : List ES} {k k1 k2 : HK} {m m1 m2 : M}
theorem tg_nm {i : Nat} {d : D} (h : i < L.length) : TgOk (gNm i) L d (L.set i (.frz d)) := fun env E => ⟨env.set i (some (false, d)), by
  unfold gNm; rw [if_pos (by rw [E.len]; exact h)], E.set rfl⟩
theorem tgs_nil : TgsOk gsNil L [] L := fun env E => ⟨env, rfl, E⟩
theorem tgs_cons {g : GM} {gs : List D → Ev → Option Ev} {d : D} {ds : List D} (a : TgOk g L d L1) (b : TgsOk gs L1 ds L2) : TgsOk (gsCons g gs) L (d :: ds) L2 := fun env E => by
  obtain ⟨e1, h1, E1⟩ := a env E
  obtain ⟨e2, h2, E2⟩ := b e1 E1
  refine ⟨e2, ?_, E2⟩
  show (g d env).bind (gs ds) = _
  rw [h1]; exact h2
theorem tg_tup {n : Nat} {gs : List D → Ev → Option Ev} {ds : List D} (a : TgsOk gs L ds L') (h : ds.length = n := by rfl) : TgOk (gTp n gs) L (.tup ds) L' := fun env E => by
  obtain ⟨e1, h1, E1⟩ := a env E
  exact ⟨e1, by show (if ds.length = n then gs ds env else none) = _; rw [if_pos h]; exact h1, E1⟩
theorem tg_lst {n : Nat} {gs : List D → Ev → Option Ev} {ds : List D} (a : TgsOk gs L ds L') (h : ds.length = n := by rfl) : TgOk (gTp n gs) L (.lst ds) L' := fun env E => by
  obtain ⟨e1, h1, E1⟩ := a env E
  exact ⟨e1, by show (if ds.length = n then gs ds env else none) = _; rw [if_pos h]; exact h1, E1⟩
def SI (s : MI) (L : List ES) (c : α → D) (L' : List ES) (u : T (List α)) : Prop := ∀ env, EsOk L env → T.rel (fun r l => r.1 = l.map c ∧ EsOk L' r.2) (s env) u
def WalkE (e : List α → D) (c : α → D) : Prop := ∀ l, walkD (e l) = some (l.map c)
theorem wk_L {e : α → D} : WalkE (eL e) e := fun _ => rfl
theorem wk_T {e : α → D} : WalkE (eT e) e := fun _ => rfl
theorem wk_Scr : WalkE eScr eI := fun _ => rfl
theorem si_seq {e : List α → D} {c : α → D} {u : T (List α)} (w : WalkE e c) (a : SE m L k e L' u) : SI (iSeq m) L c (wks k.slots L') u := fun env E => by
  rw [iSeq_e]
  have := T.rel_bind (g := fun l => T.ret l) (S := fun (r : List D × Ev) l => r.1 = l.map c ∧ EsOk (wks k.slots L') r.2) (a env E) (f := fun r => fz1K (fun d e => match walkD d with | some l => T.ret (l, e) | none => .fail) (fz r.2 r.1)) fun r x q => by
    obtain ⟨e', h, E', _⟩ := hk_fz q.1 q.2
    rw [h, fz1K_s, w x]
    exact .ret ⟨rfl, E'⟩
  rwa [T.bind_ret] at this
def walkT (d : D) : T (List D) := T.ofO (walkD d)
theorem si_seqD {e : α → D} {u : T α} (a : SE m L k e L' u) : SI (iSeq m) L eD (wks k.slots L') (u.bind fun x => walkT (e x)) := fun env E => by
  rw [iSeq_e]
  refine T.rel_bind (a env E) fun r x q => ?_
  obtain ⟨e', h, E', _⟩ := hk_fz q.1 q.2
  rw [h, fz1K_s]
  unfold walkT
  cases walkD (e x) with
  | none => exact .fail
  | some l => exact .ret ⟨by simp, E'⟩
variable {ms : MH} {ks : List HK}
theorem rng_rel {a b : Int} {ds : List D} {env : Ev} (h : rg2 ds = if rgOk a b then some (a, b) else none) (E : EsOk L env) : T.rel (fun r l => r.1 = l.map eI ∧ EsOk L r.2) (rngK env (rg2 ds)) (rngT a b) := by
  rw [h]
  unfold rngT
  split
  · rw [rngK_s, rgD_rng]; exact .ret ⟨rfl, E⟩
  · exact .fail
theorem si_rng1 {u : T (Int × Unit)} (a : SH ms L ks (a1 eI) L' u) : SI (iRng ms) L eI L' (u.bind fun p => rngT 0 p.1) := fun env E => by
  rw [iRng_e]
  refine T.rel_bind (a env E) fun r x q => ?_
  rw [q.1.rss, rssI_s]
  exact rng_rel rfl q.2
theorem si_rng1P {x : Int × Unit} (a : SH ms L ks (a1 eI) L' (.ret x)) : SI (iRng ms) L eI L' (rngT 0 x.1) := si_rng1 a
theorem si_rng2 {u : T (Int × Int × Unit)} (a : SH ms L ks (a2 eI eI) L' u) : SI (iRng ms) L eI L' (u.bind fun p => rngT p.1 p.2.1) := fun env E => by
  rw [iRng_e]
  refine T.rel_bind (a env E) fun r x q => ?_
  rw [q.1.rss, rssI_s]
  exact rng_rel rfl q.2
theorem si_rng2P {x : Int × Int × Unit} (a : SH ms L ks (a2 eI eI) L' (.ret x)) : SI (iRng ms) L eI L' (rngT x.1 x.2.1) := si_rng2 a
def enmL (l : List α) : List (Int × α) := l.zipIdx.map fun z => ((z.2 : Nat), z.1)
theorem enumL_e (c : α → D) : ∀ (i : Nat) (l : List α), enumL i (l.map c) = (l.zipIdx i).map fun z => .tup [.int (z.2 : Nat), c z.1]
  | _, [] => rfl
  | i, x :: l => by simp [enumL, enumL_e c (i + 1) l]
theorem si_enum {e : List α → D} {c : α → D} {u : T (List α × Unit)} (w : WalkE e c) (a : SH ms L ks (a1 e) L' u) : SI (iEnumM ms) L (eP2 eI c) (wks (slotsOf ks) L') (u.bind fun p => .ret (enmL p.1)) := fun env E => by
  rw [iEnumM_e]
  refine T.rel_bind (a env E) fun r x q => ?_
  obtain ⟨e', h, E'⟩ := q.1.fzs q.2
  rw [h]
  dsimp only [a1]
  rw [w x.1]
  exact .ret ⟨by rw [enumL_e]; unfold enmL; rw [List.map_map]; rfl, E'⟩
theorem si_enumP {e : List α → D} {c : α → D} {x : List α × Unit} (w : WalkE e c) (a : SH ms L ks (a1 e) L' (.ret x)) : SI (iEnumM ms) L (eP2 eI c) (wks (slotsOf ks) L') (.ret (enmL x.1)) := si_enum w a
theorem si_zip {e : List α → D} {c : α → D} {e' : List β → D} {c' : β → D} {u : T (List α × List β × Unit)} (w : WalkE e c) (w' : WalkE e' c') (a : SH ms L ks (a2 e e') L' u) : SI (iZipM ms) L (eP2 c c') (wks (slotsOf ks) L') (u.bind fun p => .ret (p.1.zip p.2.1)) := fun env E => by
  rw [iZipM_e]
  refine T.rel_bind (a env E) fun r x q => ?_
  obtain ⟨ee, h, E'⟩ := q.1.fzs q.2
  rw [h]
  dsimp only [a2]
  rw [w x.1, w' x.2.1]
  exact .ret ⟨by rw [zipL_map]; rfl, E'⟩
theorem si_zipP {e : List α → D} {c : α → D} {e' : List β → D} {c' : β → D} {x : List α × List β × Unit} (w : WalkE e c) (w' : WalkE e' c') (a : SH ms L ks (a2 e e') L' (.ret x)) : SI (iZipM ms) L (eP2 c c') (wks (slotsOf ks) L') (.ret (x.1.zip x.2.1)) := si_zip w w' a

/-! ### comprehensions -/
def wipeL (L : List ES) : List Nat → List ES
  | [] => L
  | v :: vs => (wipeL L vs).set v .nown
def backL (Lb L1 : List ES) : List Nat → List ES
  | [] => Lb
  | v :: vs => (backL Lb L1 vs).set v (L1[v]?.getD .unk)
def freeB (L : List ES) (vs : List Nat) : Bool := vs.all fun v => match L[v]? with
  | some .nown => true
  | some (.frz _) => true
  | _ => false
theorem wipe_ok : ∀ {vs : List Nat} {L : List ES} {e : Ev}, EsOk L e → EsOk (wipeL L vs) (wipeE e vs)
  | [], _, _, h => h
  | v :: vs, L, e, h => EsOk.set (wipe_ok (vs := vs) h) (x := .nown) (s := none) (.inl rfl)
theorem back_ok {q e : Ev} (Q : EsOk Lb q) (E : EsOk L1 e) : ∀ {vs : List Nat}, EsOk (backL Lb L1 vs) (backE q e vs)
  | [] => Q
  | v :: vs => by
    refine EsOk.set (back_ok Q E (vs := vs)) ?_
    cases h : L1[v]? with
    | none => trivial
    | some x =>
      obtain ⟨s, e1, e2⟩ := E.get h
      rw [e1]
      exact e2
theorem free_ok {vs : List Nat} {e : Ev} (h : freeB L vs = true) (E : EsOk L e) : vs.all (free1 e) = true := by
  unfold freeB at h
  rw [List.all_eq_true] at h ⊢
  intro v m
  have := h v m
  cases hx : L[v]? with
  | none => rw [hx] at this; cases this
  | some x =>
    rw [hx] at this
    obtain ⟨s, e1, e2⟩ := E.get hx
    unfold free1
    rw [e1]
    cases x with
    | nown => rcases e2 with rfl | ⟨d, rfl⟩ <;> rfl
    | frz d => cases e2; rfl
    | unk => cases this
    | own d => cases this
    | any d => cases this
theorem compL_rel {vs : List Nat} {g : GM} {tt : MT} {elt : M} {c : α → D} {e : β → D} {p : α → T Bool} {f : α → T β} {Lt Lp Le : α → List ES} (ht : ∀ x, TgOk g Lb (c x) (Lt x)) (hp : ∀ x, SX tt (Lt x) (Lp x) (p x)) (he : ∀ x, SE elt (Lp x) k e (Le x) (f x)) (h1 : ∀ x, LEs (wipeL (Lp x) vs) Lb) (h2 : ∀ x, LEs (wipeL (wks k.slots (Le x)) vs) Lb) :
    ∀ (l : List α) (acc : List D) (env : Ev), EsOk Lb env → T.rel (fun r ys => r.1 = acc ++ ys.map e ∧ EsOk Lb r.2) (compL g tt elt vs (l.map c) acc env) (filT p f l)
  | [], acc, env, E => .ret ⟨by simp, E⟩
  | x :: xs, acc, env, E => by
    obtain ⟨env1, g1, E1⟩ := ht x env E
    rw [List.map_cons, compL_cons, stepE_e, g1, stepE_s]
    unfold filT
    rw [T.bind_bind]
    refine T.rel_bind (hp x env1 E1) fun r b q => ?_
    obtain ⟨b', e2⟩ := r
    obtain ⟨q1, q2⟩ := q
    dsimp only at q1
    subst q1
    cases b' with
    | true =>
      rw [if_pos rfl, if_pos rfl, T.bind_bind]
      refine T.rel_bind (he x e2 q2) fun r y q => ?_
      obtain ⟨e3, h3, E3, _⟩ := hk_fz q.1 q.2
      rw [h3, fz1K_s, T.ret_bind]
      have ih := compL_rel ht hp he h1 h2 xs (acc ++ [e y]) (wipeE e3 vs) ((h2 x).ok (wipe_ok E3))
      have := T.rel_bind (g := fun ys => T.ret (y :: ys)) (f := fun r => T.ret r) (S := fun (r : List D × Ev) ys => r.1 = acc ++ ys.map e ∧ EsOk Lb r.2) ih fun r ys q => .ret ⟨by rw [q.1]; simp, q.2⟩
      rwa [T.bind_ret] at this
    | false =>
      rw [if_neg (by simp), if_neg (by simp), T.ret_bind]
      have ih := compL_rel ht hp he h1 h2 xs acc (wipeE e2 vs) ((h1 x).ok (wipe_ok q2))
      simpa using ih
theorem fil_map {f : α → T β} : ∀ l : List α, filT (fun _ => .ret true) f l = mapT f l
  | [] => rfl
  | x :: l => by
    unfold filT mapT
    rw [T.ret_bind, if_pos rfl, fil_map l]
theorem se_comp {vs : List Nat} {src : MI} {g : GM} {tt : MT} {elt : M} {c : α → D} {e : β → D} {u : T (List α)} {p : α → T Bool} {f : α → T β} {Lt Lp Le : α → List ES} (hs : SI src L c L1 u) (fr : freeB L1 vs = true) (hL : LEs (wipeL L1 vs) Lb) (ht : ∀ x, TgOk g Lb (c x) (Lt x)) (hp : ∀ x, SX tt (Lt x) (Lp x) (p x)) (he : ∀ x, SE elt (Lp x) k e (Le x) (f x)) (h1 : ∀ x, LEs (wipeL (Lp x) vs) Lb) (h2 : ∀ x, LEs (wipeL (wks k.slots (Le x)) vs) Lb) : SE (eComp vs src g tt elt) L .tmp (eL e) (backL Lb L1 vs) (u.bind fun l => filT p f l) := fun env E => by
  unfold eComp
  refine T.rel_bind (hs env E) fun r l q => ?_
  rw [if_pos (free_ok fr q.2), q.1]
  have := T.rel_bind (g := fun ys => T.ret ys) (f := fun q => T.ret (Hd.tmp (.lst q.1), backE q.2 r.2 vs)) (S := fun (r : Hd × Ev) ys => HK.tmp.ok r.2 r.1 (eL e ys) ∧ EsOk (backL Lb L1 vs) r.2) (compL_rel ht hp he h1 h2 l [] (wipeE r.2 vs) (hL.ok (wipe_ok q.2))) fun r' ys q' => .ret ⟨by rw [q'.1]; rfl, back_ok q'.2 q.2⟩
  rwa [T.bind_ret] at this
theorem se_compM {vs : List Nat} {src : MI} {g : GM} {elt : M} {c : α → D} {e : β → D} {u : T (List α)} {f : α → T β} {Lt Le : α → List ES} (hs : SI src L c L1 u) (fr : freeB L1 vs = true) (hL : LEs (wipeL L1 vs) Lb) (ht : ∀ x, TgOk g Lb (c x) (Lt x)) (he : ∀ x, SE elt (Lt x) k e (Le x) (f x)) (h1 : ∀ x, LEs (wipeL (Lt x) vs) Lb) (h2 : ∀ x, LEs (wipeL (wks k.slots (Le x)) vs) Lb) : SE (eComp vs src g mYes elt) L .tmp (eL e) (backL Lb L1 vs) (u.bind fun l => mapT f l) := by
  have := se_comp (p := fun _ => .ret true) hs fr hL ht (fun x => sx_yes) he h1 h2
  simpa only [fil_map] using this

/-! ### statements that go on -/
def SS (s : MS) (L : List ES) (u : T σ) (N : σ → List ES) : Prop := ∀ env, EsOk L env → T.rel (fun r b => r.1 = .nx ∧ EsOk (N b) r.2) (s env) u
variable {s s1 s2 A B : MS}
theorem ss_seq {u1 : T σ} {N1 : σ → List ES} {u2 : σ → T τ} {N : τ → List ES} (a : SS s1 L u1 N1) (b : ∀ v, SS s2 (N1 v) (u2 v) N) : SS (sSeq s1 s2) L (u1.bind u2) N := fun env E => by
  rw [sSeq_e]
  refine T.rel_bind (a env E) fun r x q => ?_
  obtain ⟨fl, e⟩ := r
  obtain ⟨q1, q2⟩ := q
  dsimp only at q1
  subst q1
  exact b x e q2
theorem ss_done {u : T σ} {N1 : σ → List ES} {f : σ → τ} {N : τ → List ES} (a : SS s L u N1) (h : ∀ v, LEs (N1 v) (N (f v))) : SS s L (u.bind fun v => .ret (f v)) N := fun env E => by
  have := T.rel_bind (g := fun v => T.ret (f v)) (f := fun r => T.ret r) (S := fun (r : Fl × Ev) b => r.1 = .nx ∧ EsOk (N b) r.2) (a env E) fun r b q => .ret ⟨q.1, (h b).ok q.2⟩
  rwa [T.bind_ret] at this
theorem ss_next {N : σ → List ES} (x : σ) (h : LEs L (N x)) : SS sNext L (.ret x) N := fun env E => .ret ⟨rfl, h.ok E⟩
theorem ss_never {N : σ → List ES} : SS sNever L (.fail : T σ) N := fun env E => .fail
variable {t : MT}
theorem ss_if {u : T Bool} {v1 v2 : T σ} {N : σ → List ES} (c : SX t L L1 u) (a : SS A L1 v1 N) (b : SS B L1 v2 N) : SS (sIf t A B) L (u.bind fun x => if x then v1 else v2) N := fun env E => by
  rw [sIf_e]
  refine T.rel_bind (c env E) fun r x q => ?_
  rw [q.1]
  cases x with
  | true => exact a _ q.2
  | false => exact b _ q.2
theorem ss_ifP {x : Bool} {v1 v2 : T σ} {N : σ → List ES} (c : SX t L L1 (.ret x)) (a : SS A L1 v1 N) (b : SS B L1 v2 N) : SS (sIf t A B) L (if x then v1 else v2) N := ss_if c a b
def kS : HK → D → ES
  | .val, d => .frz d
  | .tmp, d => .own d
  | .any _, d => .any d
theorem ss_set {e : β → D} {u : T β} {i : Nat} (a : SE m L k e L1 u) (h : i < L1.length) : SS (sSet i m) L u fun x => (wks k.slots L1).set i (kS k (e x)) := fun env E => by
  rw [sSet_e]
  have := T.rel_bind (g := fun v => T.ret v) (f := fun r => evK (fun e => T.ret (Fl.nx, e)) (put i r)) (S := fun (r : Fl × Ev) x => r.1 = .nx ∧ EsOk ((wks k.slots L1).set i (kS k (e x))) r.2) (a env E) fun r x q => by
    obtain ⟨hd', env1⟩ := r
    obtain ⟨q1, q2⟩ := q
    have hl : i < env1.length := by rw [EsOk.len (L := L1) q2]; exact h
    rw [put_e, if_pos hl]
    dsimp only at q1 q2 ⊢
    cases k with
    | val => cases q1; exact .ret ⟨rfl, EsOk.set (wks_ok (is := []) q2) rfl⟩
    | tmp => cases q1; exact .ret ⟨rfl, EsOk.set (wks_ok (is := []) q2) rfl⟩
    | any is =>
      obtain ⟨e', h', E', _⟩ := hk_fz q1 q2
      rcases q1 with rfl | rfl | ⟨j, b, mj, rfl, qj⟩
      · exact .ret ⟨rfl, EsOk.set (wks_ok (is := is) q2) ⟨_, rfl⟩⟩
      · exact .ret ⟨rfl, EsOk.set (wks_ok (is := is) q2) ⟨_, rfl⟩⟩
      · dsimp only
        rw [h']
        exact .ret ⟨rfl, EsOk.set E' ⟨_, rfl⟩⟩
  rwa [T.bind_ret] at this
theorem ss_asg {e : β → D} {u : T β} {g : GM} {N : β → List ES} (a : SE m L k e L1 u) (ht : ∀ x, TgOk g (wks k.slots L1) (e x) (N x)) : SS (sAsg m g) L u N := fun env E => by
  rw [sAsg_e]
  have := T.rel_bind (g := fun v => T.ret v) (f := fun r => fz1K (fun d e => evK (fun e => T.ret (Fl.nx, e)) (g d e)) (fz r.2 r.1)) (S := fun (r : Fl × Ev) x => r.1 = .nx ∧ EsOk (N x) r.2) (a env E) fun r x q => by
    obtain ⟨e', h', E', _⟩ := hk_fz q.1 q.2
    rw [h', fz1K_s]
    obtain ⟨e2, h2, E2⟩ := ht x e' E'
    rw [h2]
    exact .ret ⟨rfl, E2⟩
  rwa [T.bind_ret] at this
theorem ss_drop {e : β → D} {u : T β} (a : SE m L k e L1 u) : SS (sDrop m) L u fun _ => L1 := fun env E => by
  rw [sDrop_e]
  have := T.rel_bind (g := fun v => T.ret v) (f := fun r => T.ret (Fl.nx, r.2)) (S := fun (r : Fl × Ev) (x : β) => r.1 = .nx ∧ EsOk L1 r.2) (a env E) fun r x q => .ret ⟨rfl, q.2⟩
  rwa [T.bind_ret] at this
/-- two or three names at once -/
def putsES : List Nat → List HK → List D → List ES → List ES
  | i :: is, k :: ks, d :: ds, L => putsES is ks ds (L.set i (kS k d))
  | _, _, _, L => L
def clrK : HK → HK
  | .any _ => .any []
  | k => k
theorem unslotE_ok : ∀ {ks : List HK} {e : Ev} {hs : List Hd} {ds : List D} {L : List ES}, HsOk ks e hs ds → EsOk L e → ∃ hs' e', unslot e hs = some (hs', e') ∧ EsOk (wks (slotsOf ks) L) e' ∧ HsOk (ks.map clrK) e' hs' ds
  | [], e, hs, ds, L, h, E => by obtain ⟨rfl, rfl⟩ := h; exact ⟨[], e, rfl, E, rfl, rfl⟩
  | k :: ks, e, hs, ds, L, h, E => by
    obtain ⟨x, hr, d, dr, rfl, rfl, h1, h2⟩ := h
    obtain ⟨e1, f1, E1, s⟩ := hk_fz h1 E
    obtain ⟨hs', e2, f2, E2, H2⟩ := unslotE_ok (h2.fz_keep s) E1
    have E2' : EsOk (wks (slotsOf (k :: ks)) L) e2 := by
      show EsOk (wks (k.slots ++ slotsOf ks) L) e2
      rw [wks_app]; exact E2
    cases x with
    | val d' =>
      have hd' : d' = d := by simp [fz] at f1; exact f1.1
      have he : e = e1 := by simp [fz] at f1; exact f1.2
      subst hd' he
      refine ⟨.val d' :: hs', e2, by simp [unslot, f2], E2', .val d', hs', d', dr, rfl, rfl, ?_, H2⟩
      cases k with
      | val => rfl
      | tmp => cases h1
      | any is => exact .inl rfl
    | tmp d' =>
      have hd' : d' = d := by simp [fz] at f1; exact f1.1
      have he : e = e1 := by simp [fz] at f1; exact f1.2
      subst hd' he
      refine ⟨.tmp d' :: hs', e2, by simp [unslot, f2], E2', .tmp d', hs', d', dr, rfl, rfl, ?_, H2⟩
      cases k with
      | val => cases h1
      | tmp => rfl
      | any is => exact .inr (.inl rfl)
    | slot i =>
      refine ⟨.val d :: hs', e2, by simp only [unslot]; rw [f1]; dsimp only; rw [f2], E2', .val d, hs', d, dr, rfl, rfl, ?_, H2⟩
      cases k with
      | val => cases h1
      | tmp => cases h1
      | any is => exact .inl rfl
theorem putsE_ok : ∀ {is : List Nat} {ks : List HK} {e : Ev} {hs : List Hd} {ds : List D} {L : List ES}, HsOk (ks.map clrK) e hs ds → EsOk L e → is.length = ks.length → is.all (fun i => decide (i < L.length)) = true → ∃ e', puts is hs e = some e' ∧ EsOk (putsES is ks ds L) e'
  | [], [], e, hs, ds, L, h, E, _, _ => by obtain ⟨rfl, rfl⟩ := h; exact ⟨e, rfl, E⟩
  | i :: is, k :: ks, e, hs, ds, L, h, E, hl, hi => by
    obtain ⟨x, hr, d, dr, rfl, rfl, h1, h2⟩ := h
    simp only [List.all_cons, Bool.and_eq_true, decide_eq_true_eq] at hi
    have hlt : i < e.length := by rw [E.len]; exact hi.1
    have hi' : is.all (fun j => decide (j < (L.set i (kS k d)).length)) = true := by rw [List.length_set]; exact hi.2
    have step : ∀ b : Bool, (kS k d).ok (some (b, d)) → ∃ e', puts is hr (e.set i (some (b, d))) = some e' ∧ EsOk (putsES is ks dr (L.set i (kS k d))) e' := fun b hb =>
      putsE_ok (is := is) (ks := ks) (by
        have go : ∀ {ks : List HK} {hs : List Hd} {ds : List D}, HsOk (ks.map clrK) e hs ds → HsOk (ks.map clrK) (e.set i (some (b, d))) hs ds := fun {ks} => by
          induction ks with
          | nil => intro hs ds h; exact h
          | cons k ks ih =>
            intro hs ds h
            obtain ⟨x, hr, d, dr, rfl, rfl, h1, h2⟩ := h
            refine ⟨x, hr, d, dr, rfl, rfl, ?_, ih h2⟩
            cases k with
            | val => exact h1
            | tmp => exact h1
            | any is =>
              rcases h1 with q | q | ⟨_, _, m, _⟩
              · exact .inl q
              · exact .inr (.inl q)
              · simp at m
        exact go h2) (E.set hb) (by simpa using hl) hi'
    cases k with
    | val =>
      cases h1
      obtain ⟨e', f, E'⟩ := step false rfl
      exact ⟨e', by simp only [puts]; rw [if_pos hlt]; exact f, E'⟩
    | tmp =>
      cases h1
      obtain ⟨e', f, E'⟩ := step true rfl
      exact ⟨e', by simp only [puts]; rw [if_pos hlt]; exact f, E'⟩
    | any js =>
      rcases h1 with rfl | rfl | ⟨_, _, m, _⟩
      · obtain ⟨e', f, E'⟩ := step false ⟨_, rfl⟩
        exact ⟨e', by simp only [puts]; rw [if_pos hlt]; exact f, E'⟩
      · obtain ⟨e', f, E'⟩ := step true ⟨_, rfl⟩
        exact ⟨e', by simp only [puts]; rw [if_pos hlt]; exact f, E'⟩
      · simp at m
  | [], _ :: _, e, hs, ds, L, h, E, hl, _ => by simp at hl
  | _ :: _, [], e, hs, ds, L, h, E, hl, _ => by simp at hl
theorem ss_par {es : γ → List D} {u : T γ} {is : List Nat} (a : SH ms L ks es L1 u) (hl : is.length = ks.length := by rfl) (hi : is.all (fun i => decide (i < (wks (slotsOf ks) L1).length)) = true := by rfl) : SS (sPar is ms) L u fun c => putsES is ks (es c) (wks (slotsOf ks) L1) := fun env E => by
  rw [sPar_e]
  have := T.rel_bind (g := fun v => T.ret v) (f := fun r => parK is (unslot r.2 r.1)) (S := fun (r : Fl × Ev) c => r.1 = .nx ∧ EsOk (putsES is ks (es c) (wks (slotsOf ks) L1)) r.2) (a env E) fun r x q => by
    obtain ⟨hs', e', f, E', H'⟩ := unslotE_ok q.1 q.2
    rw [f, parK_s]
    obtain ⟨e2, f2, E2⟩ := putsE_ok H' E' hl hi
    rw [f2, parP_s]
    exact .ret ⟨rfl, E2⟩
  rwa [T.bind_ret] at this
end
end Mi
set_option Elab.async false
set_option linter.all false
set_option maxRecDepth 100000
set_option maxHeartbeats 1000000
namespace Mi
open PySem PySem.Spec PyProof.Rows L2

section
variable {α β γ σ τ ρ : Type}
variable {L L1 L2 L3 L' : List ES} {k k1 k2 : HK} {m m1 m2 mi : M} {s s1 s2 A B body : MS} {t : MT}

/-! ### lists that change -/
def appT (l : List α) (x : α) : T (List α) := if l.length < 16777216 then .ret (l ++ [x]) else .fail
def extT (l e : List α) : T (List α) := if l.length + e.length ≤ 16777216 then .ret (l ++ e) else .fail
def popT (l : List α) (i : Int) : T (α × List α) := match ixN l.length i with
  | some j => match l[j]? with
    | some x => if l.length ≤ 16777216 then .ret (x, l.eraseIdx j) else .fail
    | none => .fail
  | none => .fail
def popLT (l : List α) : T (α × List α) := match l[l.length - 1]? with
  | some x => .ret (x, l.dropLast)
  | none => .fail
def stT (l : List α) (i : Int) (x : α) : T (List α) := match ixN l.length i with
  | some j => .ret (l.set j x)
  | none => .fail
theorem own_at {i : Nat} {d : D} {e : Ev} (E : EsOk L e) (h : L[i]? = some (.own d)) : e[i]? = some (some (true, d)) := by
  obtain ⟨s, e1, e2⟩ := E.get h
  cases e2
  exact e1
/-- an expression that changes a list -/
def SM (m : M) (L : List ES) (e : β → D) (N : γ → List ES) (u : T (β × γ)) : Prop := ∀ env, EsOk L env → T.rel (fun r b => r.1 = .val (e b.1) ∧ EsOk (N b.2) r.2) (m env) u
theorem mut_rel {g : List D → List D → Option (List D × D)} {i : Nat} {ms : MH} {ks : List HK} {es : γ → List D} {u : T γ} {e : β → D} {eo : α → D} {l l0 : List β} {f : γ → T (α × List β)} (h0 : L[i]? = some (.own (eL e l0))) (a : SH ms L ks es L1 u) (h1 : (wks (slotsOf ks) L1)[i]? = some (.own (eL e l)))
    (hg : ∀ c, T.rel (fun r p => r = ((p.2).map e, eo p.1)) (T.ofO (g (l.map e) (es c))) (f c)) : SM (eMut g i ms) L eo (fun l' => (wks (slotsOf ks) L1).set i (.own (eL e l'))) (u.bind f) := fun env E => by
  rw [eMut_e, own_at E h0, isO_s]
  refine T.rel_bind (a env E) fun r c q => ?_
  obtain ⟨e', h, E'⟩ := q.1.fzs q.2
  rw [h, fzK_s, own_at E' h1]
  show T.rel _ (okS g i (es c) e' (some (some (true, .lst (l.map e))))) _
  rw [okS_s]
  have := hg c
  generalize hx : g (l.map e) (es c) = x at this
  clear hx hg
  cases x with
  | none =>
    have h' : T.rel (fun r p => r = ((p.2).map e, eo p.1)) (T.fail : T (List D × D)) (f c) := this
    generalize f c = y at h'
    cases h' with
    | fail => exact .fail
  | some z =>
    have h' : T.rel (fun r p => r = ((p.2).map e, eo p.1)) (T.ret z) (f c) := this
    generalize f c = y at h'
    cases h' with
    | fail => exact .fail
    | ret q' => subst q'; exact .ret ⟨rfl, E'.set rfl⟩
theorem erase_mapE (f : α → β) : ∀ (l : List α) (i : Nat), (l.map f).eraseIdx i = (l.eraseIdx i).map f
  | [], _ => rfl
  | _ :: _, 0 => rfl
  | x :: l, i + 1 => by simp [List.eraseIdx, erase_mapE f l i]
theorem pop_rel {e : β → D} (l : List β) (c : Int × Unit) : T.rel (fun r p => r = ((p.2).map e, e p.1)) (T.ofO (gPop1 (l.map e) (a1 eI c))) (popT l c.1) := by
  unfold gPop1 popT a1
  dsimp only
  rw [List.length_map]
  cases ixN l.length c.1 with
  | none => exact .fail
  | some j =>
    dsimp only
    rw [List.getElem?_map]
    cases l[j]? with
    | none => exact .fail
    | some x =>
      dsimp only [Option.map]
      split
      · exact .ret (by rw [erase_mapE])
      · exact .fail
theorem sm_pop {i : Nat} {ms : MH} {ks : List HK} {u : T (Int × Unit)} {e : β → D} {l l0 : List β} (h0 : L[i]? = some (.own (eL e l0))) (a : SH ms L ks (a1 eI) L1 u) (h1 : (wks (slotsOf ks) L1)[i]? = some (.own (eL e l))) : SM (eMut gPop1 i ms) L e (fun l' => (wks (slotsOf ks) L1).set i (.own (eL e l'))) (u.bind fun c => popT l c.1) := mut_rel h0 a h1 (pop_rel l)
theorem sm_popP {i : Nat} {ms : MH} {ks : List HK} {x : Int × Unit} {e : β → D} {l l0 : List β} (h0 : L[i]? = some (.own (eL e l0))) (a : SH ms L ks (a1 eI) L1 (.ret x)) (h1 : (wks (slotsOf ks) L1)[i]? = some (.own (eL e l))) : SM (eMut gPop1 i ms) L e (fun l' => (wks (slotsOf ks) L1).set i (.own (eL e l'))) (popT l x.1) := sm_pop h0 a h1
theorem sm_popL {i : Nat} {e : β → D} {l : List β} (h0 : L[i]? = some (.own (eL e l))) : SM (eMut gPop0 i hNil) L e (fun l' => L.set i (.own (eL e l'))) (popLT l) := by
  have := mut_rel (g := gPop0) (ms := hNil) (ks := []) (L1 := L) (es := fun _ : Unit => []) (u := .ret ()) (eo := e) (f := fun _ => popLT l) h0 sh_nil (l := l) h0 fun c => by
    unfold gPop0 popLT
    rw [List.length_map, List.getElem?_map]
    cases l[l.length - 1]? with
    | none => exact .fail
    | some x => exact .ret (by rw [List.map_dropLast])
  exact this
theorem ss_setM {e : β → D} {N : γ → List ES} {u : T (β × γ)} {i : Nat} (a : SM m L e N u) (h : ∀ c, i < (N c).length) : SS (sSet i m) L u fun p => (N p.2).set i (.frz (e p.1)) := fun env E => by
  rw [sSet_e]
  have := T.rel_bind (g := fun v => T.ret v) (f := fun r => evK (fun e => T.ret (Fl.nx, e)) (put i r)) (S := fun (r : Fl × Ev) (p : β × γ) => r.1 = .nx ∧ EsOk ((N p.2).set i (.frz (e p.1))) r.2) (a env E) fun r x q => by
    obtain ⟨hd', env1⟩ := r
    obtain ⟨q1, q2⟩ := q
    have hl : i < env1.length := by rw [EsOk.len (L := N x.2) q2]; exact h _
    rw [put_e, if_pos hl]
    dsimp only at q1 q2 ⊢
    cases q1
    exact .ret ⟨rfl, EsOk.set q2 rfl⟩
  rwa [T.bind_ret] at this
theorem ss_asgM {e : β → D} {N : γ → List ES} {u : T (β × γ)} {g : GM} {N' : β × γ → List ES} (a : SM m L e N u) (ht : ∀ x, TgOk g (N x.2) (e x.1) (N' x)) : SS (sAsg m g) L u N' := fun env E => by
  rw [sAsg_e]
  have := T.rel_bind (g := fun v => T.ret v) (f := fun r => fz1K (fun d e => evK (fun e => T.ret (Fl.nx, e)) (g d e)) (fz r.2 r.1)) (S := fun (r : Fl × Ev) x => r.1 = .nx ∧ EsOk (N' x) r.2) (a env E) fun r x q => by
    obtain ⟨hd', env1⟩ := r
    obtain ⟨q1, q2⟩ := q
    dsimp only at q1 q2 ⊢
    cases q1
    obtain ⟨e2, h2, E2⟩ := ht x env1 q2
    rw [fz_val, fz1K_s, h2]
    exact .ret ⟨rfl, E2⟩
  rwa [T.bind_ret] at this
theorem ss_dropM {e : β → D} {N : γ → List ES} {u : T (β × γ)} (a : SM m L e N u) : SS (sDrop m) L u fun p => N p.2 := fun env E => by
  rw [sDrop_e]
  have := T.rel_bind (g := fun v => T.ret v) (f := fun r => T.ret (Fl.nx, r.2)) (S := fun (r : Fl × Ev) (p : β × γ) => r.1 = .nx ∧ EsOk (N p.2) r.2) (a env E) fun r x q => .ret ⟨rfl, q.2⟩
  rwa [T.bind_ret] at this
theorem app_rel {e : β → D} (l : List β) (c : β × Unit) : T.rel (fun r p => r = ((p.2).map e, eN p.1)) (T.ofO (gAppend (l.map e) (a1 e c))) ((appT l c.1).bind fun l' => .ret ((), l')) := by
  unfold gAppend appT a1
  dsimp only
  rw [List.length_map]
  split
  · exact .ret (by simp [eN])
  · exact .fail
theorem ext_rel {e : β → D} (l : List β) (c : List β × Unit) : T.rel (fun r p => r = ((p.2).map e, eN p.1)) (T.ofO (gExtend (l.map e) (a1 (eL e) c))) ((extT l c.1).bind fun l' => .ret ((), l')) := by
  unfold gExtend extT a1 eL
  dsimp only
  rw [List.length_map, List.length_map]
  split
  · exact .ret (by simp [eN])
  · exact .fail
theorem drop_bind {N : List α → List ES} {u : T (List α)} (a : SM m L eN N (u.bind fun l' => .ret ((), l'))) : SS (sDrop m) L u N := fun env E => by
  rw [sDrop_e]
  have h := T.rel_bind (g := fun v : Unit × List α => T.ret v.2) (f := fun r => T.ret (Fl.nx, r.2)) (S := fun (r : Fl × Ev) (p : List α) => r.1 = .nx ∧ EsOk (N p) r.2) (a env E) fun r x q => .ret ⟨rfl, q.2⟩
  rw [T.bind_bind] at h
  simpa using h
theorem ss_app {i : Nat} {ms : MH} {ks : List HK} {u : T (β × Unit)} {e : β → D} {l l0 : List β} (h0 : L[i]? = some (.own (eL e l0))) (a : SH ms L ks (a1 e) L1 u) (h1 : (wks (slotsOf ks) L1)[i]? = some (.own (eL e l))) : SS (sDrop (eMut gAppend i ms)) L (u.bind fun c => appT l c.1) fun l' => (wks (slotsOf ks) L1).set i (.own (eL e l')) := by
  have := mut_rel h0 a h1 (app_rel l)
  rw [← T.bind_bind] at this
  exact drop_bind this
theorem ss_appP {i : Nat} {ms : MH} {ks : List HK} {x : β × Unit} {e : β → D} {l l0 : List β} (h0 : L[i]? = some (.own (eL e l0))) (a : SH ms L ks (a1 e) L1 (.ret x)) (h1 : (wks (slotsOf ks) L1)[i]? = some (.own (eL e l))) : SS (sDrop (eMut gAppend i ms)) L (appT l x.1) fun l' => (wks (slotsOf ks) L1).set i (.own (eL e l')) := ss_app h0 a h1
theorem ss_ext {i : Nat} {ms : MH} {ks : List HK} {u : T (List β × Unit)} {e : β → D} {l l0 : List β} (h0 : L[i]? = some (.own (eL e l0))) (a : SH ms L ks (a1 (eL e)) L1 u) (h1 : (wks (slotsOf ks) L1)[i]? = some (.own (eL e l))) : SS (sDrop (eMut gExtend i ms)) L (u.bind fun c => extT l c.1) fun l' => (wks (slotsOf ks) L1).set i (.own (eL e l')) := by
  have := mut_rel h0 a h1 (ext_rel l)
  rw [← T.bind_bind] at this
  exact drop_bind this
theorem ss_extP {i : Nat} {ms : MH} {ks : List HK} {x : List β × Unit} {e : β → D} {l l0 : List β} (h0 : L[i]? = some (.own (eL e l0))) (a : SH ms L ks (a1 (eL e)) L1 (.ret x)) (h1 : (wks (slotsOf ks) L1)[i]? = some (.own (eL e l))) : SS (sDrop (eMut gExtend i ms)) L (extT l x.1) fun l' => (wks (slotsOf ks) L1).set i (.own (eL e l')) := ss_ext h0 a h1
/-- what is popped appended -/
theorem ss_appM {i : Nat} {e : β → D} {N : γ → List ES} {u : T (β × γ)} {l l0 : List β} (h0 : L[i]? = some (.own (eL e l0))) (a : SM m L e N u) (h1 : ∀ c, (N c)[i]? = some (.own (eL e l))) : SS (sDrop (eMut gAppend i (hCons m hNil))) L (u.bind fun p => (appT l p.1).bind fun l' => .ret (l', p.2)) fun q => (N q.2).set i (.own (eL e q.1)) := fun env E => by
  rw [sDrop_e, eMut_e, own_at E h0, isO_s, hCons_e, T.bind_bind, T.bind_bind]
  refine T.rel_bind (a env E) fun r p q => ?_
  obtain ⟨hd', env1⟩ := r
  obtain ⟨q1, q2⟩ := q
  dsimp only at q1 q2 ⊢
  cases q1
  rw [hNil_e, T.ret_bind, T.ret_bind]
  dsimp only
  rw [show fzs env1 [Hd.val (e p.1)] = some ([e p.1], env1) from rfl, fzK_s, own_at q2 (h1 p.2)]
  show T.rel _ ((okS gAppend i [e p.1] env1 (some (some (true, .lst (l.map e))))).bind _) _
  rw [okS_s]
  unfold appT
  by_cases hl : l.length < 16777216
  · rw [append_e (by simpa using hl), okM_s, if_pos hl]
    refine .ret ⟨rfl, ?_⟩
    have : EsOk ((N p.2).set i (.own (eL e (l ++ [p.1])))) (env1.set i (some (true, .lst ((l ++ [p.1]).map e)))) := EsOk.set q2 rfl
    simpa using this
  · rw [if_neg hl]; exact .fail
theorem ss_store {i : Nat} {e : β → D} {u1 : T β} {u2 : T Int} {l l0 : List β} (a : SE m L k e L1 u1) (h0 : (wks k.slots L1)[i]? = some (.own (eL e l0))) (b : SE mi (wks k.slots L1) .val eI L2 u2) (h1 : L2[i]? = some (.own (eL e l))) : SS (sStore i mi m) L (u1.bind fun x => u2.bind fun j => stT l j x) fun l' => L2.set i (.own (eL e l')) := fun env E => by
  unfold sStore
  refine T.rel_bind (a env E) fun r x q => ?_
  obtain ⟨e', f, E', _⟩ := hk_fz q.1 q.2
  rw [f]
  dsimp only
  rw [own_at E' h0]
  dsimp only
  refine T.rel_bind (b e' E') fun r2 j q2 => ?_
  obtain ⟨h2, e2⟩ := r2
  obtain ⟨q3, q4⟩ := q2
  cases q3
  dsimp only
  rw [own_at (L := L2) q4 h1]
  unfold stT
  show T.rel _ (match _root_.L2.ixN (l.map e).length j with | some j => _ | none => _) _
  rw [List.length_map]
  cases _root_.L2.ixN l.length j with
  | none => exact .fail
  | some j' => exact .ret ⟨rfl, by
      have : EsOk (L2.set i (.own (eL e (l.set j' x)))) (e2.set i (some (true, .lst ((l.set j' x).map e)))) := EsOk.set q4 rfl
      simpa using this⟩

/-! ### statements that return -/
def ST (s : MS) (L : List ES) (er : ρ → D) (u : T ρ) : Prop := ∀ env, EsOk L env → T.rel (fun r b => r.1 = .rt (er b)) (s env) u
theorem st_ret {er : ρ → D} {u : T ρ} (a : SE m L k er L1 u) : ST (sRet m) L er u := fun env E => by
  rw [sRet_e]
  have := T.rel_bind (g := fun v => T.ret v) (f := fun r => fz1K (fun d e => T.ret (Fl.rt d, e)) (fz r.2 r.1)) (S := fun (r : Fl × Ev) x => r.1 = .rt (er x)) (a env E) fun r x q => by
    obtain ⟨e', h', E', _⟩ := hk_fz q.1 q.2
    rw [h', fz1K_s]
    exact .ret rfl
  rwa [T.bind_ret] at this
theorem st_retN {er : ρ → D} (x : ρ) (h : er x = .non) : ST sRetN L er (.ret x) := fun env E => .ret (by show Fl.rt .non = .rt (er x); rw [h])
theorem st_never {er : ρ → D} : ST sNever L er .fail := fun env E => .fail
theorem st_seq {er : ρ → D} {u1 : T σ} {N1 : σ → List ES} {u2 : σ → T ρ} (a : SS s1 L u1 N1) (b : ∀ v, ST s2 (N1 v) er (u2 v)) : ST (sSeq s1 s2) L er (u1.bind u2) := fun env E => by
  rw [sSeq_e]
  refine T.rel_bind (a env E) fun r x q => ?_
  obtain ⟨fl, e⟩ := r
  obtain ⟨q1, q2⟩ := q
  dsimp only at q1
  subst q1
  exact b x e q2
theorem st_if {er : ρ → D} {u : T Bool} {v1 v2 : T ρ} (c : SX t L L1 u) (a : ST A L1 er v1) (b : ST B L1 er v2) : ST (sIf t A B) L er (u.bind fun x => if x then v1 else v2) := fun env E => by
  rw [sIf_e]
  refine T.rel_bind (c env E) fun r x q => ?_
  rw [q.1]
  cases x with
  | true => exact a _ q.2
  | false => exact b _ q.2
theorem st_ifP {er : ρ → D} {x : Bool} {v1 v2 : T ρ} (c : SX t L L1 (.ret x)) (a : ST A L1 er v1) (b : ST B L1 er v2) : ST (sIf t A B) L er (if x then v1 else v2) := st_if c a b
theorem st_sq {er : ρ → D} {t1 : T (Fl × Ev)} {v : T ρ} (h : T.rel (fun r b => r.1 = .rt (er b)) t1 v) : T.rel (fun r b => r.1 = .rt (er b)) (t1.bind (sqK s2)) v := by
  have := T.rel_bind (g := fun v => T.ret v) (f := sqK s2) (S := fun (r : Fl × Ev) x => r.1 = .rt (er x)) h fun r x q => by
    obtain ⟨fl, e⟩ := r
    dsimp only at q
    subst q
    exact .ret rfl
  rwa [T.bind_ret] at this
/-- one branch returns, the other goes on -/
theorem st_ifl {er : ρ → D} {u : T Bool} {v1 : T ρ} {v2 : T σ} {N : σ → List ES} {w : σ → T ρ} (c : SX t L L1 u) (a : ST A L1 er v1) (b : SS B L1 v2 N) (r : ∀ x, ST s2 (N x) er (w x)) : ST (sSeq (sIf t A B) s2) L er (u.bind fun x => if x then v1 else v2.bind w) := fun env E => by
  rw [sSeq_e, sIf_e, T.bind_bind]
  refine T.rel_bind (c env E) fun r0 x q => ?_
  rw [q.1]
  cases x with
  | true => exact st_sq (a _ q.2)
  | false =>
    have := st_seq b r _ q.2
    rw [sSeq_e] at this
    exact this
theorem st_ifr {er : ρ → D} {u : T Bool} {v1 : T ρ} {v2 : T σ} {N : σ → List ES} {w : σ → T ρ} (c : SX t L L1 u) (b : SS A L1 v2 N) (a : ST B L1 er v1) (r : ∀ x, ST s2 (N x) er (w x)) : ST (sSeq (sIf t A B) s2) L er (u.bind fun x => if x then v2.bind w else v1) := fun env E => by
  rw [sSeq_e, sIf_e, T.bind_bind]
  refine T.rel_bind (c env E) fun r0 x q => ?_
  rw [q.1]
  cases x with
  | false => exact st_sq (a _ q.2)
  | true =>
    have := st_seq b r _ q.2
    rw [sSeq_e] at this
    exact this
theorem st_ifret {er : ρ → D} {u : T Bool} {v1 w : T ρ} (c : SX t L L1 u) (a : ST A L1 er v1) (r : ST s2 L1 er w) : ST (sSeq (sIf t A sNext) s2) L er (u.bind fun x => if x then v1 else w) := st_ifl (v2 := .ret ()) (N := fun _ => L1) (w := fun _ => w) c a (ss_next () LEs.rfl') fun _ => r
theorem st_ifretP {er : ρ → D} {x : Bool} {v1 w : T ρ} (c : SX t L L1 (.ret x)) (a : ST A L1 er v1) (r : ST s2 L1 er w) : ST (sSeq (sIf t A sNext) s2) L er (if x then v1 else w) := st_ifret c a r

/-! ### statements that do either -/
def SG (s : MS) (L : List ES) (N : σ → List ES) (J : τ → List ES) (er : ρ → D) (u : T (Ctl σ τ ρ)) : Prop := ∀ env, EsOk L env → T.rel (fun r c => match c with | .nx v => r.1 = .nx ∧ EsOk (N v) r.2 | .bk v => r.1 = .bk ∧ EsOk (J v) r.2 | .ct v => r.1 = .ct ∧ EsOk (J v) r.2 | .rt v => r.1 = .rt (er v)) (s env) u
/-- never goes on -/
def SJ (s : MS) (L : List ES) (J : τ → List ES) (er : ρ → D) (u : T (Ctl σ τ ρ)) : Prop := ∀ env, EsOk L env → T.rel (fun r c => match c with | .nx v => False | .bk v => r.1 = .bk ∧ EsOk (J v) r.2 | .ct v => r.1 = .ct ∧ EsOk (J v) r.2 | .rt v => r.1 = .rt (er v)) (s env) u
variable {J : τ → List ES} {er : ρ → D}
theorem sg_ss {u : T σ} {N : σ → List ES} (a : SS s L u N) : SG s L N J er (u.bind fun v => .ret (.nx v)) := fun env E => by
  have := T.rel_bind (g := fun v => T.ret (.nx v : Ctl σ τ ρ)) (f := fun r => T.ret r) (S := fun (r : Fl × Ev) (c : Ctl σ τ ρ) => match c with | .nx v => r.1 = .nx ∧ EsOk (N v) r.2 | .bk v => r.1 = .bk ∧ EsOk (J v) r.2 | .ct v => r.1 = .ct ∧ EsOk (J v) r.2 | .rt v => r.1 = .rt (er v)) (a env E) fun r b q => .ret q
  rwa [T.bind_ret] at this
theorem sj_ret {u : T ρ} (a : SE m L k er L1 u) : SJ (sRet m) L J er (u.bind fun x => .ret (.rt x : Ctl σ τ ρ)) := fun env E => by
  have := T.rel_bind (g := fun x => T.ret (.rt x : Ctl σ τ ρ)) (f := fun r => T.ret r) (S := fun (r : Fl × Ev) (c : Ctl σ τ ρ) => match c with | .nx v => False | .bk v => r.1 = .bk ∧ EsOk (J v) r.2 | .ct v => r.1 = .ct ∧ EsOk (J v) r.2 | .rt v => r.1 = .rt (er v)) (st_ret a env E) fun r b q => .ret q
  rwa [T.bind_ret] at this
theorem sj_retP {x : ρ} (a : SE m L k er L1 (.ret x)) : SJ (sRet m) L J er (.ret (.rt x : Ctl σ τ ρ)) := sj_ret a
theorem sj_bk (v : τ) (h : LEs L (J v)) : SJ sBreak L J er (.ret (.bk v : Ctl σ τ ρ)) := fun env E => .ret ⟨rfl, h.ok E⟩
theorem sj_ct (v : τ) (h : LEs L (J v)) : SJ sCont L J er (.ret (.ct v : Ctl σ τ ρ)) := fun env E => .ret ⟨rfl, h.ok E⟩
theorem sj_never : SJ sNever L J er (.fail : T (Ctl σ τ ρ)) := fun env E => .fail
theorem sj_seq {u1 : T γ} {N1 : γ → List ES} {u2 : γ → T (Ctl σ τ ρ)} (a : SS s1 L u1 N1) (b : ∀ v, SJ s2 (N1 v) J er (u2 v)) : SJ (sSeq s1 s2) L J er (u1.bind u2) := fun env E => by
  rw [sSeq_e]
  refine T.rel_bind (a env E) fun r x q => ?_
  obtain ⟨fl, e⟩ := r
  obtain ⟨q1, q2⟩ := q
  dsimp only at q1
  subst q1
  exact b x e q2
theorem sj_if {u : T Bool} {v1 v2 : T (Ctl σ τ ρ)} (c : SX t L L1 u) (a : SJ A L1 J er v1) (b : SJ B L1 J er v2) : SJ (sIf t A B) L J er (u.bind fun x => if x then v1 else v2) := fun env E => by
  rw [sIf_e]
  refine T.rel_bind (c env E) fun r x q => ?_
  rw [q.1]
  cases x with
  | true => exact a _ q.2
  | false => exact b _ q.2
theorem sj_ifP {x : Bool} {v1 v2 : T (Ctl σ τ ρ)} (c : SX t L L1 (.ret x)) (a : SJ A L1 J er v1) (b : SJ B L1 J er v2) : SJ (sIf t A B) L J er (if x then v1 else v2) := sj_if c a b
theorem sg_j {u : T (Ctl σ τ ρ)} {N : σ → List ES} (a : SJ s L J er u) : SG s L N J er u := fun env E => T.rel.rel_mono (a env E) fun r c q => by
  cases c with
  | nx v => exact q.elim
  | _ => exact q
variable {N : σ → List ES}
theorem sg_next (v : σ) (h : LEs L (N v)) : SG sNext L N J er (.ret (.nx v : Ctl σ τ ρ)) := fun env E => .ret ⟨rfl, h.ok E⟩
theorem sg_done {u : T γ} {N1 : γ → List ES} {f : γ → σ} (a : SS s L u N1) (h : ∀ v, LEs (N1 v) (N (f v))) : SG s L N J er (u.bind fun v => .ret (.nx (f v) : Ctl σ τ ρ)) := by
  have := sg_ss (J := J) (er := er) (ss_done a h)
  rw [T.bind_bind] at this
  exact this
theorem sg_seq {u1 : T γ} {N1 : γ → List ES} {u2 : γ → T (Ctl σ τ ρ)} (a : SS s1 L u1 N1) (b : ∀ v, SG s2 (N1 v) N J er (u2 v)) : SG (sSeq s1 s2) L N J er (u1.bind u2) := fun env E => by
  rw [sSeq_e]
  refine T.rel_bind (a env E) fun r x q => ?_
  obtain ⟨fl, e⟩ := r
  obtain ⟨q1, q2⟩ := q
  dsimp only at q1
  subst q1
  exact b x e q2
theorem sg_if {u : T Bool} {v1 v2 : T (Ctl σ τ ρ)} (c : SX t L L1 u) (a : SG A L1 N J er v1) (b : SG B L1 N J er v2) : SG (sIf t A B) L N J er (u.bind fun x => if x then v1 else v2) := fun env E => by
  rw [sIf_e]
  refine T.rel_bind (c env E) fun r x q => ?_
  rw [q.1]
  cases x with
  | true => exact a _ q.2
  | false => exact b _ q.2
theorem sg_ifP {x : Bool} {v1 v2 : T (Ctl σ τ ρ)} (c : SX t L L1 (.ret x)) (a : SG A L1 N J er v1) (b : SG B L1 N J er v2) : SG (sIf t A B) L N J er (if x then v1 else v2) := sg_if c a b
theorem sg_seqG {u1 : T (Ctl γ τ ρ)} {N1 : γ → List ES} {u2 : γ → T (Ctl σ τ ρ)} (a : SG s1 L N1 J er u1) (b : ∀ v, SG s2 (N1 v) N J er (u2 v)) : SG (sSeq s1 s2) L N J er (u1.bind (Ctl.k u2)) := fun env E => by
  rw [sSeq_e]
  refine T.rel_bind (a env E) fun r x q => ?_
  obtain ⟨fl, e⟩ := r
  cases x with
  | nx v =>
    obtain ⟨q1, q2⟩ := q
    dsimp only at q1
    subst q1
    exact b v e q2
  | bk v => obtain ⟨q1, q2⟩ := q; dsimp only at q1; subst q1; exact .ret ⟨rfl, q2⟩
  | ct v => obtain ⟨q1, q2⟩ := q; dsimp only at q1; subst q1; exact .ret ⟨rfl, q2⟩
  | rt v => dsimp only at q; subst q; exact .ret rfl
/-- one branch jumps, the rest follows the other -/
theorem sg_ifj {u : T Bool} {v1 w : T (Ctl σ τ ρ)} (c : SX t L L1 u) (a : SJ A L1 J er v1) (r : SG s2 L1 N J er w) : SG (sSeq (sIf t A sNext) s2) L N J er (u.bind fun x => if x then v1 else w) := fun env E => by
  rw [sSeq_e, sIf_e, T.bind_bind]
  refine T.rel_bind (c env E) fun r0 x q => ?_
  rw [q.1]
  cases x with
  | false => exact r _ q.2
  | true =>
    have := T.rel_bind (g := fun v => T.ret v) (f := sqK s2) (S := fun (r : Fl × Ev) (c : Ctl σ τ ρ) => match c with | .nx v => r.1 = .nx ∧ EsOk (N v) r.2 | .bk v => r.1 = .bk ∧ EsOk (J v) r.2 | .ct v => r.1 = .ct ∧ EsOk (J v) r.2 | .rt v => r.1 = .rt (er v)) (a _ q.2) fun r x q => by
      obtain ⟨fl, e⟩ := r
      cases x with
      | nx v => exact q.elim
      | bk v => obtain ⟨q1, q2⟩ := q; dsimp only at q1; subst q1; exact .ret ⟨rfl, q2⟩
      | ct v => obtain ⟨q1, q2⟩ := q; dsimp only at q1; subst q1; exact .ret ⟨rfl, q2⟩
      | rt v => dsimp only at q; subst q; exact .ret rfl
    rw [T.bind_ret] at this
    exact this
theorem sg_ifjP {x : Bool} {v1 w : T (Ctl σ τ ρ)} (c : SX t L L1 (.ret x)) (a : SJ A L1 J er v1) (r : SG s2 L1 N J er w) : SG (sSeq (sIf t A sNext) s2) L N J er (if x then v1 else w) := sg_ifj c a r
def J0 (_ : Unit) : List ES := []
/-- at a def's end -/
theorem st_seqG {u1 : T (Ctl σ Unit ρ)} {u2 : σ → T ρ} (a : SG s1 L N J0 er u1) (b : ∀ v, ST s2 (N v) er (u2 v)) : ST (sSeq s1 s2) L er (u1.bind (Ctl.t u2)) := fun env E => by
  rw [sSeq_e]
  refine T.rel_bind (a env E) fun r x q => ?_
  obtain ⟨fl, e⟩ := r
  cases x with
  | nx v =>
    obtain ⟨q1, q2⟩ := q
    dsimp only at q1
    subst q1
    exact b v e q2
  | bk v => exact .fail
  | ct v => exact .fail
  | rt v => dsimp only at q; subst q; exact .ret rfl
theorem ss_of_sg {u : T (Ctl σ Unit Unit)} (a : SG s L N J0 eN u) : SS s L (u.bind Ctl.s) N := fun env E => by
  have := T.rel_bind (g := Ctl.s) (f := fun r => T.ret r) (S := fun (r : Fl × Ev) b => r.1 = .nx ∧ EsOk (N b) r.2) (a env E) fun r c q => by
    cases c with
    | nx v => exact .ret q
    | _ => exact .fail
  rwa [T.bind_ret] at this

/-! ### loops -/
variable {src : MI} {g : GM} {c : α → D} {I : σ → List ES}
theorem forL_rel {f : σ → α → T σ} {Lt : σ → α → List ES} (ht : ∀ s x, TgOk g (I s) (c x) (Lt s x)) (hb : ∀ s x, SS body (Lt s x) (f s x) I) : ∀ (l : List α) (s : σ) (env : Ev), EsOk (I s) env → T.rel (fun r b => r.1 = .nx ∧ EsOk (I b) r.2) (forL g body (l.map c) env) (forT f s l)
  | [], s, env, E => .ret ⟨rfl, E⟩
  | x :: xs, s, env, E => by
    obtain ⟨env1, g1, E1⟩ := ht s x env E
    simp only [List.map_cons, forL, g1]
    unfold forT
    refine T.rel_bind (hb s x env1 E1) fun r b q => ?_
    obtain ⟨fl, e⟩ := r
    obtain ⟨q1, q2⟩ := q
    dsimp only at q1
    subst q1
    exact forL_rel ht hb xs b e q2
theorem ss_for {u : T (List α)} {f : σ → α → T σ} {Lt : σ → α → List ES} (s0 : σ) (hs : SI src L c L1 u) (h0 : LEs L1 (I s0)) (ht : ∀ s x, TgOk g (I s) (c x) (Lt s x)) (hb : ∀ s x, SS body (Lt s x) (f s x) I) : SS (sFor src g body) L (u.bind fun l => forT f s0 l) I := fun env E => by
  rw [sFor_e]
  refine T.rel_bind (hs env E) fun r l q => ?_
  rw [q.1]
  exact forL_rel ht hb l s0 r.2 (h0.ok q.2)
theorem forG_rel {f : σ → α → T (Ctl σ σ ρ)} {Lt : σ → α → List ES} (ht : ∀ s x, TgOk g (I s) (c x) (Lt s x)) (hb : ∀ s x, SG body (Lt s x) I I er (f s x)) : ∀ (l : List α) (s : σ) (env : Ev), EsOk (I s) env → T.rel (fun (r : Fl × Ev) (c : Ctl σ τ ρ) => match c with | .nx v => r.1 = .nx ∧ EsOk (I v) r.2 | .bk v => r.1 = .bk ∧ EsOk (J v) r.2 | .ct v => r.1 = .ct ∧ EsOk (J v) r.2 | .rt v => r.1 = .rt (er v)) (forL g body (l.map c) env) (forC f s l)
  | [], s, env, E => .ret ⟨rfl, E⟩
  | x :: xs, s, env, E => by
    obtain ⟨env1, g1, E1⟩ := ht s x env E
    simp only [List.map_cons, forL, g1]
    unfold forC
    refine T.rel_bind (hb s x env1 E1) fun r b q => ?_
    obtain ⟨fl, e⟩ := r
    cases b with
    | nx v => obtain ⟨q1, q2⟩ := q; dsimp only at q1; subst q1; exact forG_rel ht hb xs v e q2
    | ct v => obtain ⟨q1, q2⟩ := q; dsimp only at q1; subst q1; exact forG_rel ht hb xs v e q2
    | bk v => obtain ⟨q1, q2⟩ := q; dsimp only at q1; subst q1; exact .ret ⟨rfl, q2⟩
    | rt v => dsimp only at q; subst q; exact .ret rfl
theorem sg_for {u : T (List α)} {f : σ → α → T (Ctl σ σ ρ)} {Lt : σ → α → List ES} (s0 : σ) (hs : SI src L c L1 u) (h0 : LEs L1 (I s0)) (ht : ∀ s x, TgOk g (I s) (c x) (Lt s x)) (hb : ∀ s x, SG body (Lt s x) I I er (f s x)) : SG (sFor src g body) L I J er (u.bind fun l => forC f s0 l) := fun env E => by
  rw [sFor_e]
  refine T.rel_bind (hs env E) fun r l q => ?_
  rw [q.1]
  exact forG_rel ht hb l s0 r.2 (h0.ok q.2)
theorem while_rel {ct : σ → T Bool} {f : σ → T σ} {Lc : σ → List ES} (hc : ∀ s, SX t (I s) (Lc s) (ct s)) (hb : ∀ s, SS body (Lc s) (f s) I) (he : ∀ s, LEs (Lc s) (I s)) : ∀ (n : Nat) (s : σ) (env : Ev), EsOk (I s) env → T.rel (fun r b => r.1 = .nx ∧ EsOk (I b) r.2) (whileL t body n env) (whileT ct f n s)
  | 0, s, env, E => .fail
  | n + 1, s, env, E => by
    unfold whileL whileT
    refine T.rel_bind (hc s env E) fun r b q => ?_
    obtain ⟨b', e⟩ := r
    obtain ⟨q1, q2⟩ := q
    dsimp only at q1
    subst q1
    cases b' with
    | false => exact .ret ⟨rfl, (he s).ok q2⟩
    | true =>
      refine T.rel_bind (hb s e q2) fun r b q => ?_
      obtain ⟨fl, e⟩ := r
      obtain ⟨q1, q2⟩ := q
      dsimp only at q1
      subst q1
      exact while_rel hc hb he n b e q2
theorem ss_while {n : Nat} {ct : σ → T Bool} {f : σ → T σ} {Lc : σ → List ES} (s0 : σ) (h0 : LEs L (I s0)) (hc : ∀ s, SX t (I s) (Lc s) (ct s)) (hb : ∀ s, SS body (Lc s) (f s) I) (he : ∀ s, LEs (Lc s) (I s)) : SS (sWhile n t body) L (whileT ct f n s0) I := fun env E => while_rel hc hb he n s0 env (h0.ok E)
theorem whileG_rel {ct : σ → T Bool} {f : σ → T (Ctl σ σ ρ)} {Lc : σ → List ES} (hc : ∀ s, SX t (I s) (Lc s) (ct s)) (hb : ∀ s, SG body (Lc s) I I er (f s)) (he : ∀ s, LEs (Lc s) (I s)) : ∀ (n : Nat) (s : σ) (env : Ev), EsOk (I s) env → T.rel (fun (r : Fl × Ev) (c : Ctl σ τ ρ) => match c with | .nx v => r.1 = .nx ∧ EsOk (I v) r.2 | .bk v => r.1 = .bk ∧ EsOk (J v) r.2 | .ct v => r.1 = .ct ∧ EsOk (J v) r.2 | .rt v => r.1 = .rt (er v)) (whileL t body n env) (whileC ct f n s)
  | 0, s, env, E => .fail
  | n + 1, s, env, E => by
    unfold whileL whileC
    refine T.rel_bind (hc s env E) fun r b q => ?_
    obtain ⟨b', e⟩ := r
    obtain ⟨q1, q2⟩ := q
    dsimp only at q1
    subst q1
    cases b' with
    | false => exact .ret ⟨rfl, (he s).ok q2⟩
    | true =>
      refine T.rel_bind (hb s e q2) fun r b q => ?_
      obtain ⟨fl, e⟩ := r
      cases b with
      | nx v => obtain ⟨q1, q2⟩ := q; dsimp only at q1; subst q1; exact whileG_rel hc hb he n v e q2
      | ct v => obtain ⟨q1, q2⟩ := q; dsimp only at q1; subst q1; exact whileG_rel hc hb he n v e q2
      | bk v => obtain ⟨q1, q2⟩ := q; dsimp only at q1; subst q1; exact .ret ⟨rfl, q2⟩
      | rt v => dsimp only at q; subst q; exact .ret rfl
theorem sg_while {n : Nat} {ct : σ → T Bool} {f : σ → T (Ctl σ σ ρ)} {Lc : σ → List ES} (s0 : σ) (h0 : LEs L (I s0)) (hc : ∀ s, SX t (I s) (Lc s) (ct s)) (hb : ∀ s, SG body (Lc s) I I er (f s)) (he : ∀ s, LEs (Lc s) (I s)) : SG (sWhile n t body) L I J er (whileC ct f n s0) := fun env E => whileG_rel hc hb he n s0 env (h0.ok E)

/-! ### defs -/
def startL (n : Nat) (ds : List D) : List ES := ds.map .frz ++ List.replicate (n - ds.length) .nown
theorem start_app {L : List ES} {e : Ev} (h : EsOk L e) : ∀ ds : List D, EsOk (ds.map .frz ++ L) (ds.map (fun d => some (false, d)) ++ e)
  | [] => h
  | d :: ds => ⟨_, _, rfl, rfl, start_app h ds⟩
theorem start_rep : ∀ n : Nat, EsOk (List.replicate n .nown) (List.replicate n none)
  | 0 => rfl
  | n + 1 => ⟨_, _, rfl, .inl rfl, start_rep n⟩
theorem start_ok (n : Nat) (ds : List D) : EsOk (startL n ds) (startM n ds) := start_app (start_rep _) ds
variable {n np : Nat} {es : γ → List D} {eo : ρ → D}
theorem fn_st {nat : γ → T ρ} (hl : ∀ c, (es c).length = np) (h : ∀ c, ST body (startL n (es c)) eo (nat c)) : FnN (mkFn n np body) es eo nat := fun c => by
  unfold mkFn
  rw [if_pos (hl c)]
  have := T.rel_bind (g := fun v => T.ret v) (f := fun (r : Fl × Ev) => match r.1 with | .rt d => T.ret d | .nx => .ret .non | _ => .fail) (S := fun d x => d = eo x) (h c _ (start_ok n (es c))) fun r x q => by
    rw [q]; exact .ret rfl
  rwa [T.bind_ret] at this
theorem fn_ss {nat : γ → T Unit} {N : Unit → List ES} (hl : ∀ c, (es c).length = np) (h : ∀ c, SS body (startL n (es c)) (nat c) N) : FnN (mkFn n np body) es eN nat := fun c => by
  unfold mkFn
  rw [if_pos (hl c)]
  have := T.rel_bind (g := fun v => T.ret v) (f := fun (r : Fl × Ev) => match r.1 with | .rt d => T.ret d | .nx => .ret .non | _ => .fail) (S := fun d x => d = eN x) (h c _ (start_ok n (es c))) fun r x q => by
    rw [q.1]; exact .ret rfl
  rwa [T.bind_ret] at this
/-- one that may return, else ends with None -/
theorem fn_sg {nat : γ → T (Ctl Unit Unit ρ)} {N : Unit → List ES} (x0 : ρ) (h0 : eo x0 = .non) (hl : ∀ c, (es c).length = np) (h : ∀ c, SG body (startL n (es c)) N J0 eo (nat c)) : FnN (mkFn n np body) es eo fun c => (nat c).bind (Ctl.t fun _ => .ret x0) := fun c => by
  unfold mkFn
  rw [if_pos (hl c)]
  refine T.rel_bind (h c _ (start_ok n (es c))) fun r x q => ?_
  cases x with
  | nx v => rw [q.1]; exact .ret h0.symm
  | bk v => exact .fail
  | ct v => exact .fail
  | rt v => dsimp only at q; rw [q]; exact .ret rfl
theorem FnN.lim {g : List D → T D} {nat : γ → T ρ} (h : FnN g es eo nat) {c : γ} {n : Nat} {Q : ρ → Prop} (q : (nat c).lim n Q) : (g (es c)).lim n fun d => ∃ x, d = eo x ∧ Q x := T.rel_lim q (h c)
/-- draws -/
def drawT (k : Int) : T Int := if 0 < k ∧ k < 1073741824 then .draw k.toNat fun d => .ret (d : Nat) else .fail
theorem fn_take : FnN takeG (a2 ePot eI) eI fun p => drawT p.2.1 := fun p => by
  show T.rel _ (if 0 < p.2.1 ∧ p.2.1 < 1073741824 then _ else _) (if 0 < p.2.1 ∧ p.2.1 < 1073741824 then _ else _)
  split
  · exact .draw fun d hd => .ret rfl
  · exact .fail
def potT (p : Int) : T Unit := if 0 ≤ p ∧ p < 1000 then .ret () else .fail
theorem fn_pot : FnN potG (a2 eScr eI) ePot fun p => potT p.2.1 := fun p => by
  show T.rel _ (if 0 ≤ p.2.1 ∧ p.2.1 < 1000 then _ else _) (if 0 ≤ p.2.1 ∧ p.2.1 < 1000 then _ else _)
  split
  · exact .ret rfl
  · exact .fail
end
end Mi
set_option Elab.async false
set_option linter.all false
set_option maxRecDepth 100000
set_option maxHeartbeats 1000000
namespace Mi
open PySem PySem.Spec PyProof.Rows L2

section
variable {α β γ δ ε σ τ ρ : Type}
variable {L L1 L2 L3 L' Lb : List ES} {k k1 k2 : HK} {m m1 m2 mi : M}
/-! ### leaves: no lists within -/
theorem lf_I (a : Int) : lf (eI a) = true := rfl
theorem lf_B (a : Bool) : lf (eB a) = true := rfl
theorem lf_S (a : List Nat) : lf (eS a) = true := rfl
theorem lf_N (a : Unit) : lf (eN a) = true := rfl
theorem lf_Pot (a : Unit) : lf (ePot a) = true := rfl
theorem lf_Scr (a : List Int) : lf (eScr a) = true := rfl
theorem lfs_map {e : α → D} (h : ∀ a, lf (e a) = true) : ∀ l : List α, lfs (l.map e) = true
  | [] => rfl
  | x :: l => by simp [lfs, h x, lfs_map h l]
theorem lf_T {e : α → D} (h : ∀ a, lf (e a) = true) (l : List α) : lf (eT e l) = true := lfs_map h l
theorem lf_P2 {e1 : α → D} {e2 : β → D} (h1 : ∀ a, lf (e1 a) = true) (h2 : ∀ a, lf (e2 a) = true) (p : α × β) : lf (eP2 e1 e2 p) = true := by simp [eP2, lf, lfs, h1, h2]
theorem lf_P3 {e1 : α → D} {e2 : β → D} {e3 : γ → D} (h1 : ∀ a, lf (e1 a) = true) (h2 : ∀ a, lf (e2 a) = true) (h3 : ∀ a, lf (e3 a) = true) (p : α × β × γ) : lf (eP3 e1 e2 e3 p) = true := by simp [eP3, lf, lfs, h1, h2, h3]
theorem lf_P4 {e1 : α → D} {e2 : β → D} {e3 : γ → D} {e4 : δ → D} (h1 : ∀ a, lf (e1 a) = true) (h2 : ∀ a, lf (e2 a) = true) (h3 : ∀ a, lf (e3 a) = true) (h4 : ∀ a, lf (e4 a) = true) (p : α × β × γ × δ) : lf (eP4 e1 e2 e3 e4 p) = true := by simp [eP4, lf, lfs, h1, h2, h3, h4]
theorem lf_O {e : α → D} (h : ∀ a, lf (e a) = true) : ∀ o : Option α, lf (eO e o) = true
  | none => rfl
  | some a => h a
/-! ### more parts of tuples -/
theorem op_p2m1 {e1 : α → D} {e2 : β → D} : OpP gIx (eP2 e1 e2) (fun _ : Unit => .int (-1)) false e2 fun p _ => p.2 := fun _ _ => rfl
theorem op_p2m2 {e1 : α → D} {e2 : β → D} : OpP gIx (eP2 e1 e2) (fun _ : Unit => .int (-2)) false e1 fun p _ => p.1 := fun _ _ => rfl
theorem op_p3m1 {e1 : α → D} {e2 : β → D} {e3 : γ → D} : OpP gIx (eP3 e1 e2 e3) (fun _ : Unit => .int (-1)) false e3 fun p _ => p.2.2 := fun _ _ => rfl
/-! ### comprehensions, plain -/
theorem mapT_ret (g : α → β) : ∀ l : List α, mapT (fun x => .ret (g x)) l = .ret (l.map g)
  | [] => rfl
  | x :: l => by unfold mapT; rw [T.ret_bind, mapT_ret g l]; rfl
theorem filT_ret (p : α → Bool) (g : α → β) : ∀ l : List α, filT (fun x => .ret (p x)) (fun x => .ret (g x)) l = .ret ((l.filter p).map g)
  | [] => rfl
  | x :: l => by
    unfold filT
    rw [T.ret_bind, filT_ret p g l]
    cases h : p x <;> simp [h, List.filter_cons]
theorem filT_rp (p : α → Bool) (g : α → T β) : ∀ l : List α, filT (fun x => .ret (p x)) g l = mapT g (l.filter p)
  | [] => rfl
  | x :: l => by
    unfold filT
    rw [T.ret_bind, filT_rp p g l]
    cases h : p x <;> simp [h, List.filter_cons, mapT]
variable {vs : List Nat} {src : MI} {g : GM} {tt : MT} {elt : M} {c : α → D} {e : β → D}
theorem se_compP {l : List α} {p : α → T Bool} {f : α → T β} {Lt Lp Le : α → List ES} (hs : SI src L c L1 (.ret l)) (fr : freeB L1 vs = true) (hL : LEs (wipeL L1 vs) Lb) (ht : ∀ x, TgOk g Lb (c x) (Lt x)) (hp : ∀ x, SX tt (Lt x) (Lp x) (p x)) (he : ∀ x, SE elt (Lp x) k e (Le x) (f x)) (h1 : ∀ x, LEs (wipeL (Lp x) vs) Lb) (h2 : ∀ x, LEs (wipeL (wks k.slots (Le x)) vs) Lb) : SE (eComp vs src g tt elt) L .tmp (eL e) (backL Lb L1 vs) (filT p f l) := se_comp hs fr hL ht hp he h1 h2
theorem se_compPP {l : List α} {p : α → Bool} {f : α → β} {Lt Lp Le : α → List ES} (hs : SI src L c L1 (.ret l)) (fr : freeB L1 vs = true) (hL : LEs (wipeL L1 vs) Lb) (ht : ∀ x, TgOk g Lb (c x) (Lt x)) (hp : ∀ x, SX tt (Lt x) (Lp x) (.ret (p x))) (he : ∀ x, SE elt (Lp x) k e (Le x) (.ret (f x))) (h1 : ∀ x, LEs (wipeL (Lp x) vs) Lb) (h2 : ∀ x, LEs (wipeL (wks k.slots (Le x)) vs) Lb) : SE (eComp vs src g tt elt) L .tmp (eL e) (backL Lb L1 vs) (.ret ((l.filter p).map f)) := by
  have := se_compP hs fr hL ht hp he h1 h2
  rwa [filT_ret] at this
theorem se_compQ {u : T (List α)} {p : α → Bool} {f : α → β} {Lt Lp Le : α → List ES} (hs : SI src L c L1 u) (fr : freeB L1 vs = true) (hL : LEs (wipeL L1 vs) Lb) (ht : ∀ x, TgOk g Lb (c x) (Lt x)) (hp : ∀ x, SX tt (Lt x) (Lp x) (.ret (p x))) (he : ∀ x, SE elt (Lp x) k e (Le x) (.ret (f x))) (h1 : ∀ x, LEs (wipeL (Lp x) vs) Lb) (h2 : ∀ x, LEs (wipeL (wks k.slots (Le x)) vs) Lb) : SE (eComp vs src g tt elt) L .tmp (eL e) (backL Lb L1 vs) (u.bind fun l => .ret ((l.filter p).map f)) := by
  have := se_comp hs fr hL ht hp he h1 h2
  simpa only [filT_ret] using this
theorem se_compMP {l : List α} {f : α → T β} {Lt Le : α → List ES} (hs : SI src L c L1 (.ret l)) (fr : freeB L1 vs = true) (hL : LEs (wipeL L1 vs) Lb) (ht : ∀ x, TgOk g Lb (c x) (Lt x)) (he : ∀ x, SE elt (Lt x) k e (Le x) (f x)) (h1 : ∀ x, LEs (wipeL (Lt x) vs) Lb) (h2 : ∀ x, LEs (wipeL (wks k.slots (Le x)) vs) Lb) : SE (eComp vs src g mYes elt) L .tmp (eL e) (backL Lb L1 vs) (mapT f l) := se_compM hs fr hL ht he h1 h2
theorem se_compMPP {l : List α} {f : α → β} {Lt Le : α → List ES} (hs : SI src L c L1 (.ret l)) (fr : freeB L1 vs = true) (hL : LEs (wipeL L1 vs) Lb) (ht : ∀ x, TgOk g Lb (c x) (Lt x)) (he : ∀ x, SE elt (Lt x) k e (Le x) (.ret (f x))) (h1 : ∀ x, LEs (wipeL (Lt x) vs) Lb) (h2 : ∀ x, LEs (wipeL (wks k.slots (Le x)) vs) Lb) : SE (eComp vs src g mYes elt) L .tmp (eL e) (backL Lb L1 vs) (.ret (l.map f)) := by
  have := se_compMP hs fr hL ht he h1 h2
  rwa [mapT_ret] at this
theorem se_compMQ {u : T (List α)} {f : α → β} {Lt Le : α → List ES} (hs : SI src L c L1 u) (fr : freeB L1 vs = true) (hL : LEs (wipeL L1 vs) Lb) (ht : ∀ x, TgOk g Lb (c x) (Lt x)) (he : ∀ x, SE elt (Lt x) k e (Le x) (.ret (f x))) (h1 : ∀ x, LEs (wipeL (Lt x) vs) Lb) (h2 : ∀ x, LEs (wipeL (wks k.slots (Le x)) vs) Lb) : SE (eComp vs src g mYes elt) L .tmp (eL e) (backL Lb L1 vs) (u.bind fun l => .ret (l.map f)) := by
  have := se_compM hs fr hL ht he h1 h2
  simpa only [mapT_ret] using this
/-! ### rows with stars -/
theorem sl_nil {e : α → D} : SH hNil L [] (fun l : List α => l.map e) L (.ret []) := fun env E => .ret ⟨⟨rfl, rfl⟩, E⟩
/-- a row of values of one kind, ready -/
def SL (ms : MH) (L : List ES) (e : α → D) (L' : List ES) (u : T (List α)) : Prop := ∀ env, EsOk L env → T.rel (fun r l => r.1 = l.map (fun a => Hd.val (e a)) ∧ EsOk L' r.2) (ms env) u
theorem sl_n {e : α → D} : SL hNil L e L (.ret []) := fun env E => .ret ⟨rfl, E⟩
theorem sl_c {ms : MH} {e : α → D} {u1 : T α} {u2 : T (List α)} (a : SE m L .val e L1 u1) (b : SL ms L1 e L2 u2) : SL (hCons m ms) L e L2 (u1.bind fun x => u2.bind fun l => .ret (x :: l)) := fun env E => by
  rw [hCons_e]
  refine T.rel_bind (a env E) fun r1 x q1 => T.rel_bind (b _ q1.2) fun r2 l q2 => .ret ⟨?_, q2.2⟩
  have h : r1.1 = .val (e x) := q1.1
  show r1.1 :: r2.1 = _
  rw [h, q2.1]; rfl
theorem sl_s {ms : MH} {e : α → D} {eo : List α → D} {u1 u2 : T (List α)} (w : WalkE eo e) (a : SE m L k eo L1 u1) (b : SL ms (wks k.slots L1) e L2 u2) : SL (hStar m ms) L e L2 (u1.bind fun x => u2.bind fun l => .ret (x ++ l)) := fun env E => by
  unfold hStar
  refine T.rel_bind (a env E) fun r1 x q1 => ?_
  obtain ⟨e', f, E', _⟩ := hk_fz q1.1 q1.2
  rw [f]
  dsimp only
  rw [w x]
  dsimp only
  refine T.rel_bind (b e' E') fun r2 l q2 => .ret ⟨?_, q2.2⟩
  rw [q2.1]
  simp
def fewT (l : List α) : T (List α) := if l.length ≤ 16777216 then .ret l else .fail
theorem fzs_valsE (env : Ev) (e : α → D) : ∀ l : List α, fzs env (l.map fun a => Hd.val (e a)) = some (l.map e, env)
  | [] => rfl
  | d :: l => by simp [fzs_valsE env e l]
theorem few_rel {ms : MH} {e : α → D} {u : T (List α)} (a : SL ms L e L' u) : SL (hFew ms) L e L' (u.bind fewT) := fun env E => by
  unfold hFew
  refine T.rel_bind (a env E) fun r l q => ?_
  rw [q.1, List.length_map]
  unfold fewT
  split
  · exact .ret q
  · exact .fail
theorem se_tupS {ms : MH} {e : α → D} {u : T (List α)} (a : SL ms L e L' u) : SE (eTup (hFew ms)) L .val (eT e) L' (u.bind fewT) := fun env E => by
  rw [eTup_e]
  have := T.rel_bind (g := fun v => T.ret v) (f := fun r => fzK (fun ds e => T.ret (Hd.val (.tup ds), e)) (fzs r.2 r.1)) (S := fun (r : Hd × Ev) b => HK.val.ok r.2 r.1 (eT e b) ∧ EsOk L' r.2) (few_rel a env E) fun r l q => by
    rw [q.1, fzs_valsE, fzK_s]
    exact .ret ⟨rfl, q.2⟩
  rwa [T.bind_ret] at this
theorem se_lstS {ms : MH} {e : α → D} {u : T (List α)} (a : SL ms L e L' u) : SE (eLst (hFew ms)) L .tmp (eL e) L' (u.bind fewT) := fun env E => by
  rw [eLst_e]
  have := T.rel_bind (g := fun v => T.ret v) (f := fun r => fzK (fun ds e => T.ret (Hd.tmp (.lst ds), e)) (fzs r.2 r.1)) (S := fun (r : Hd × Ev) b => HK.tmp.ok r.2 r.1 (eL e b) ∧ EsOk L' r.2) (few_rel a env E) fun r l q => by
    rw [q.1, fzs_valsE, fzK_s]
    exact .ret ⟨rfl, q.2⟩
  rwa [T.bind_ret] at this
/-- a def without a return -/
def SU (s : MS) (L : List ES) (u : T Unit) : Prop := ∃ N, SS s L u N
theorem fn_at {s : MS} {L : List ES} {u : T Unit} {N : Unit → List ES} (a : SS s L u N) : SU s L u := ⟨N, a⟩
theorem fn_ss2 {n np : Nat} {body : MS} {es : γ → List D} {nat : γ → T Unit} (hl : ∀ c, (es c).length = np) (h : ∀ c, SU body (startL n (es c)) (nat c)) : FnN (mkFn n np body) es eN nat := fun c => by
  obtain ⟨N, q⟩ := h c
  have := fn_ss (es := fun _ : Unit => es c) (nat := fun _ => nat c) (N := N) (fun _ => hl c) (fun _ => q) ()
  exact this
/-- what is known, written out -/
theorem se_n {m : M} {L L1 : List ES} {k : HK} {e : β → D} {u : T β} (a : SE m L k e L1 u) (L' : List ES) (h : L1 = L') : SE m L k e L' u := h ▸ a
theorem ss_n {s : MS} {L : List ES} {u : T σ} {N : σ → List ES} (a : SS s L u N) (N' : σ → List ES) (h : ∀ v, N v = N' v) : SS s L u N' := fun env E => (a env E).rel_mono fun r b q => ⟨q.1, h b ▸ q.2⟩
theorem st_n {s : MS} {L : List ES} {er : ρ → D} {u : T ρ} (L0 : List ES) (h : L = L0) (a : ST s L0 er u) : ST s L er u := h ▸ a
theorem ss_n0 {s : MS} {L : List ES} {u : T σ} {N : σ → List ES} (L0 : List ES) (h : L = L0) (a : SS s L0 u N) : SS s L u N := h ▸ a
theorem st_cast {s : MS} {er : ρ → D} {u u' : T ρ} (a : ST s L er u) (h : u = u') : ST s L er u' := h ▸ a
theorem ss_cast {s : MS} {u u' : T σ} {N : σ → List ES} (a : SS s L u N) (h : u = u') : SS s L u' N := h ▸ a
theorem sg_endG {s : MS} {τ σ' : Type} {J : τ → List ES} {er : ρ → D} {u : T (Ctl σ τ ρ)} {N1 : σ → List ES} {N : σ' → List ES} {f : σ → σ'} (a : SG s L N1 J er u) (h : ∀ v, LEs (N1 v) (N (f v))) : SG s L N J er (u.bind (Ctl.k fun v => .ret (.nx (f v)))) := fun env E => by
  have := T.rel_bind (g := Ctl.k fun v => T.ret (Ctl.nx (f v) : Ctl σ' τ ρ)) (f := fun r => T.ret r) (S := fun (r : Fl × Ev) (c : Ctl σ' τ ρ) => match c with | .nx v => r.1 = .nx ∧ EsOk (N v) r.2 | .bk v => r.1 = .bk ∧ EsOk (J v) r.2 | .ct v => r.1 = .ct ∧ EsOk (J v) r.2 | .rt v => r.1 = .rt (er v)) (a env E) fun r c q => by
    cases c with
    | nx v => exact .ret ⟨q.1, (h v).ok q.2⟩
    | bk v => exact .ret q
    | ct v => exact .ret q
    | rt v => exact .ret q
  rw [T.bind_ret] at this
  exact T.rel.rel_mono this fun r c q => by cases c <;> exact q
theorem tg_n {i : Nat} {d : D} (h : Nat.blt i L.length = true) : TgOk (gNm i) L d (L.set i (.frz d)) := tg_nm (Nat.blt_eq.mp h)
theorem ss_st {e : β → D} {u : T β} {i : Nat} (a : SE m L k e L1 u) (h : Nat.blt i L1.length = true) : SS (sSet i m) L u fun x => (wks k.slots L1).set i (kS k (e x)) := ss_set a (Nat.blt_eq.mp h)
theorem ss_stM {e : β → D} {N : γ → List ES} {u : T (β × γ)} {i : Nat} (a : SM m L e N u) (h : ∀ c, Nat.blt i (N c).length = true) : SS (sSet i m) L u fun p => (N p.2).set i (.frz (e p.1)) := ss_setM a fun c => Nat.blt_eq.mp (h c)
theorem isi_D {s : String} (d : D) : T.rel (fun h c => h = c) (T.ofO (gIsi s d)) (isiT s d) := by
  unfold isiT
  cases gIsi s d with
  | none => exact .fail
  | some b => exact .ret rfl
theorem si_seqP {e : List α → D} {c : α → D} {x : List α} (w : WalkE e c) (a : SE m L k e L' (.ret x)) : SI (iSeq m) L c (wks k.slots L') (.ret x) := si_seq w a
theorem ss_forP {σ : Type} {I : σ → List ES} {l : List α} {f : σ → α → T σ} {Lt : σ → α → List ES} {body : MS} (s0 : σ) (hs : SI src L c L1 (.ret l)) (h0 : LEs L1 (I s0)) (ht : ∀ s x, TgOk g (I s) (c x) (Lt s x)) (hb : ∀ s x, SS body (Lt s x) (f s x) I) : SS (sFor src g body) L (forT f s0 l) I := ss_for s0 hs h0 ht hb
theorem sg_forP {J : τ → List ES} {er : ρ → D} {I : σ → List ES} {l : List α} {f : σ → α → T (Ctl σ σ ρ)} {Lt : σ → α → List ES} {body : MS} (s0 : σ) (hs : SI src L c L1 (.ret l)) (h0 : LEs L1 (I s0)) (ht : ∀ s x, TgOk g (I s) (c x) (Lt s x)) (hb : ∀ s x, SG body (Lt s x) I I er (f s x)) : SG (sFor src g body) L I J er (forC f s0 l) := sg_for s0 hs h0 ht hb
theorem se_defT {ms : MH} {ks : List HK} {es : γ → List D} {g : List D → T D} {eo : δ → D} {n : γ → T δ} {x : γ} (f : FnN g es eo n) (l : ∀ b, lf (eo b) = true) (a : SH ms L ks es L' (.ret x)) : SE (eDef g ms) L .val eo L' (n x) := se_defLP f l a
end
end Mi
set_option Elab.async false
set_option linter.all false
set_option maxRecDepth 100000
set_option maxHeartbeats 1000000
namespace Mi
open PySem PySem.Spec PyProof.Rows L2

section
variable {α β γ : Type}
/-! ### sets, turned about, two stores -/
def dcT (l : List Int) : T Int := if l.length ≤ 4000 then .ret ((ddI l).length : Nat) else .fail
theorem un_dcT : UnR lenSetD (eT eI) false eI dcT := fun l => by
  unfold dcT lenSetD
  show T.rel _ (T.ofO (match intsO (l.map eI) with | some ns => if ns.length ≤ 4000 then some (Hd.val (.int (ddI ns).length)) else none | none => none)) _
  rw [ints_e]
  dsimp only
  split
  · exact .ret rfl
  · exact .fail
theorem un_dcL : UnR lenSetD (eL eI) false eI dcT := fun l => by
  unfold dcT lenSetD
  show T.rel _ (T.ofO (match intsO (l.map eI) with | some ns => if ns.length ≤ 4000 then some (Hd.val (.int (ddI ns).length)) else none | none => none)) _
  rw [ints_e]
  dsimp only
  split
  · exact .ret rfl
  · exact .fail
theorem un_dcD : UnR lenSetD eD false eI fun d => intO (lenSetD d) := fun d => intO_rel _
theorem un_revT {e : α → D} : UnP revD (eT e) false (eT e) List.reverse := fun l => by
  show some (Hd.val (.tup (l.map e).reverse)) = some (Hd.val (.tup (l.reverse.map e)))
  rw [List.map_reverse]
theorem un_revL {e : α → D} : UnP revD (eL e) true (eL e) List.reverse := fun l => by
  show some (Hd.tmp (.lst (l.map e).reverse)) = some (Hd.tmp (.lst (l.reverse.map e)))
  rw [List.map_reverse]
theorem se_unT {g : D → Option Hd} {e1 : α → D} {t : Bool} {eo : γ → D} {f : α → T γ} {x : α} {m : M} {L L' : List ES} {k : HK} (o : UnR g e1 t eo f) (a : SE m L k e1 L' (.ret x)) : SE (eUn g m) L (kd t) eo L' (f x) := se_un o a
variable {L L1 L2 : List ES} {k : HK} {m mi mi' : M}
theorem stK_rel {ρ : Type} {i : Nat} {e : β → D} {u : T Int} {l0 l : List β} {x : β} {kk : Ev → T (Fl × Ev)} {R : Fl × Ev → ρ → Prop} {w : List β → T ρ} (h0 : L[i]? = some (.own (eL e l0))) (b : SE mi L .val eI L1 u) (h1 : L1[i]? = some (.own (eL e l)))
    (hk : ∀ l' env', EsOk (L1.set i (.own (eL e l'))) env' → T.rel R (kk env') (w l')) : ∀ env, EsOk L env → T.rel R (stK i mi (e x) env kk) (u.bind fun j => (stT l j x).bind w) := fun env E => by
  unfold stK
  rw [own_at E h0]
  dsimp only
  refine T.rel_bind (b env E) fun r2 j q2 => ?_
  obtain ⟨h2, e2⟩ := r2
  obtain ⟨q3, q4⟩ := q2
  cases q3
  dsimp only
  rw [own_at (L := L1) q4 h1]
  unfold stT
  show T.rel _ (match _root_.L2.ixN (l.map e).length j with | some j => _ | none => _) _
  rw [List.length_map]
  cases _root_.L2.ixN l.length j with
  | none => exact .fail
  | some j' =>
    have : EsOk (L1.set i (.own (eL e (l.set j' x)))) (e2.set i (some (true, .lst ((l.set j' x).map e)))) := EsOk.set q4 rfl
    have := hk _ _ this
    simpa using this
theorem ss_sto2 {i i' : Nat} {e : β → D} {e' : γ → D} {u1 : T (β × γ)} {u2 : T Int} {l0 l : List β} {u3 : List β → T Int} {l0' l' : List β → List γ} {L3 : List β → List ES} (a : SE m L k (eP2 e e') L1 u1) (h0 : (wks k.slots L1)[i]? = some (.own (eL e l0))) (b : SE mi (wks k.slots L1) .val eI L2 u2) (h1 : L2[i]? = some (.own (eL e l)))
    (h2 : ∀ x, (L2.set i (.own (eL e x)))[i']? = some (.own (eL e' (l0' x)))) (b' : ∀ x, SE mi' (L2.set i (.own (eL e x))) .val eI (L3 x) (u3 x)) (h3 : ∀ x, (L3 x)[i']? = some (.own (eL e' (l' x)))) :
    SS (sSto2 i mi i' mi' m) L (u1.bind fun p => u2.bind fun j => (stT l j p.1).bind fun x => (u3 x).bind fun j' => (stT (l' x) j' p.2).bind fun y => .ret (x, y)) fun q => (L3 q.1).set i' (.own (eL e' q.2)) := fun env E => by
  unfold sSto2
  refine T.rel_bind (a env E) fun r x q => ?_
  obtain ⟨ee, f, E', _⟩ := hk_fz q.1 q.2
  rw [f]
  show T.rel _ (stK i mi (e x.1) ee fun env2 => stK i' mi' (e' x.2) env2 fun env3 => .ret (.nx, env3)) _
  refine stK_rel h0 b h1 (fun l1 env1 E1 => ?_) ee E'
  exact stK_rel (h2 l1) (b' l1) (h3 l1) (fun l2 env2 E2 => .ret ⟨rfl, E2⟩) env1 E1
end
end Mi
set_option Elab.async false
set_option linter.all false
set_option maxRecDepth 100000
set_option maxHeartbeats 1000000
namespace Mi
open PySem PySem.Spec PyProof.Rows L2

section
variable {α β γ δ ε α' β' γ' δ' : Type}
/-! ### the same data, read otherwise -/
def CvR (c : α → D) (c' : β → D) (f : α → T β) : Prop := ∀ x, T.rel (fun (_ : Unit) y => c' y = c x) (.ret ()) (f x)
def CvP (c : α → D) (c' : β → D) (f : α → β) : Prop := ∀ x, c' (f x) = c x
theorem CvP.r {c : α → D} {c' : β → D} {f : α → β} (h : CvP c c' f) : CvR c c' fun x => .ret (f x) := fun x => .ret (h x)
variable {L L1 L2 L' : List ES} {k : HK} {m : M} {src : MI}
theorem se_cv {c : α → D} {c' : β → D} {f : α → T β} {u : T α} (h : CvR c c' f) (a : SE m L k c L' u) : SE m L k c' L' (u.bind f) := fun env E => by
  have := T.rel_bind (f := fun r => T.ret r) (g := f) (S := fun r b => k.ok r.2 r.1 (c' b) ∧ EsOk L' r.2) (a env E) fun r x q => by
    have := h x
    generalize hy : f x = y at this
    generalize T.ret () = z at this
    induction this with
    | fail => exact .fail
    | @ret _ b e => exact .ret ⟨by rw [e]; exact q.1, q.2⟩
    | draw _ _ => exact False.elim (by
        have := h x
        rw [hy] at this
        cases this)
  rwa [T.bind_ret] at this
theorem se_cvP {c : α → D} {c' : β → D} {f : α → β} {x : α} (h : CvP c c' f) (a : SE m L k c L' (.ret x)) : SE m L k c' L' (.ret (f x)) := se_cv h.r a
theorem se_cvT {c : α → D} {c' : β → D} {f : α → T β} {x : α} (h : CvR c c' f) (a : SE m L k c L' (.ret x)) : SE m L k c' L' (f x) := se_cv h a
theorem cv_list {c : α → D} {c' : β → D} {f : α → T β} (h : CvR c c' f) : ∀ l : List α, T.rel (fun (_ : Unit) ys => ys.map c' = l.map c) (.ret ()) (mapT f l)
  | [] => .ret rfl
  | x :: l => by
    unfold mapT
    have h1 := h x
    have h2 := cv_list h l
    generalize f x = y at h1
    generalize mapT f l = ys at h2
    cases h1 with
    | fail => exact .fail
    | ret e1 => cases h2 with
      | fail => exact .fail
      | ret e2 => exact .ret (by rw [List.map_cons, List.map_cons, e1, e2])
theorem si_cv {c : α → D} {c' : β → D} {f : α → T β} {u : T (List α)} (h : CvR c c' f) (a : SI src L c L' u) : SI src L c' L' (u.bind (mapT f)) := fun env E => by
  have := T.rel_bind (f := fun r => T.ret r) (g := mapT f) (S := fun (r : List D × Ev) b => r.1 = b.map c' ∧ EsOk L' r.2) (a env E) fun r x q => by
    have := cv_list h x
    generalize mapT f x = y at this
    cases this with
    | fail => exact .fail
    | ret e => exact .ret ⟨by rw [q.1, e], q.2⟩
  rwa [T.bind_ret] at this
theorem si_cvT {c : α → D} {c' : β → D} {f : α → T β} {l : List α} (h : CvR c c' f) (a : SI src L c L' (.ret l)) : SI src L c' L' (mapT f l) := si_cv h a
theorem si_cvP {c : α → D} {c' : β → D} {f : α → β} {u : T (List α)} (h : CvP c c' f) (a : SI src L c L' u) : SI src L c' L' (u.bind fun l => .ret (l.map f)) := by
  have := si_cv h.r a
  rwa [show mapT (fun x => T.ret (f x)) = fun l => T.ret (l.map f) from funext fun l => mapT_ret f l] at this
theorem cv_id {c : α → D} : CvP c c id := fun _ => rfl
def p2T : List α → T (α × α)
  | [a, b] => .ret (a, b)
  | _ => .fail
def p3T : List α → T (α × α × α)
  | [a, b, c] => .ret (a, b, c)
  | _ => .fail
theorem cv_p2 {e : α → D} : CvR (eT e) (eP2 e e) p2T := fun l => by
  match l with
  | [a, b] => exact .ret rfl
  | [] => exact .fail
  | [a] => exact .fail
  | _ :: _ :: _ :: _ => exact .fail
theorem cv_p3 {e : α → D} : CvR (eT e) (eP3 e e e) p3T := fun l => by
  match l with
  | [a, b, c] => exact .ret rfl
  | [] => exact .fail
  | [a] => exact .fail
  | [a, b] => exact .fail
  | _ :: _ :: _ :: _ :: _ => exact .fail
def l2P (p : α × α) : List α := [p.1, p.2]
def l3P (p : α × α × α) : List α := [p.1, p.2.1, p.2.2]
theorem cv_l2 {e : α → D} : CvP (eP2 e e) (eT e) l2P := fun _ => rfl
theorem cv_l3 {e : α → D} : CvP (eP3 e e e) (eT e) l3P := fun _ => rfl
theorem cv_some {e : α → D} : CvP e (eO e) some := fun _ => rfl
theorem cv_any {e : α → D} : CvP e eD e := fun _ => rfl
theorem cv_T {c : α → D} {c' : β → D} {f : α → T β} (h : CvR c c' f) : CvR (eT c) (eT c') (mapT f) := fun l => by
  have := cv_list h l
  generalize mapT f l = y at this
  cases this with
  | fail => exact .fail
  | ret e => exact .ret (congrArg D.tup e)
theorem cv_L {c : α → D} {c' : β → D} {f : α → T β} (h : CvR c c' f) : CvR (eL c) (eL c') (mapT f) := fun l => by
  have := cv_list h l
  generalize mapT f l = y at this
  cases this with
  | fail => exact .fail
  | ret e => exact .ret (congrArg D.lst e)
theorem cv_TP {c : α → D} {c' : β → D} {f : α → β} (h : CvP c c' f) : CvP (eT c) (eT c') (List.map f) := fun l => by
  show D.tup ((l.map f).map c') = D.tup (l.map c)
  rw [List.map_map]; exact congrArg D.tup (List.map_congr_left fun x _ => h x)
theorem cv_LP {c : α → D} {c' : β → D} {f : α → β} (h : CvP c c' f) : CvP (eL c) (eL c') (List.map f) := fun l => by
  show D.lst ((l.map f).map c') = D.lst (l.map c)
  rw [List.map_map]; exact congrArg D.lst (List.map_congr_left fun x _ => h x)
def P2T (f : α → T α') (g : β → T β') (p : α × β) : T (α' × β') := (f p.1).bind fun a => (g p.2).bind fun b => .ret (a, b)
def P3T (f : α → T α') (g : β → T β') (h : γ → T γ') (p : α × β × γ) : T (α' × β' × γ') := (f p.1).bind fun a => (g p.2.1).bind fun b => (h p.2.2).bind fun c => .ret (a, b, c)
theorem cv_P2 {c : α → D} {c' : α' → D} {d : β → D} {d' : β' → D} {f : α → T α'} {g : β → T β'} (h1 : CvR c c' f) (h2 : CvR d d' g) : CvR (eP2 c d) (eP2 c' d') (P2T f g) := fun p => by
  unfold P2T
  have q1 := h1 p.1
  have q2 := h2 p.2
  generalize f p.1 = y at q1
  generalize g p.2 = z at q2
  cases q1 with
  | fail => exact .fail
  | ret e1 => cases q2 with
    | fail => exact .fail
    | ret e2 => exact .ret (by unfold eP2; rw [e1, e2])
theorem cv_P3 {c : α → D} {c' : α' → D} {d : β → D} {d' : β' → D} {e : γ → D} {e' : γ' → D} {f : α → T α'} {g : β → T β'} {h : γ → T γ'} (h1 : CvR c c' f) (h2 : CvR d d' g) (h3 : CvR e e' h) : CvR (eP3 c d e) (eP3 c' d' e') (P3T f g h) := fun p => by
  unfold P3T
  have q1 := h1 p.1
  have q2 := h2 p.2.1
  have q3 := h3 p.2.2
  generalize f p.1 = y at q1
  generalize g p.2.1 = z at q2
  generalize h p.2.2 = w at q3
  cases q1 with
  | fail => exact .fail
  | ret e1 => cases q2 with
    | fail => exact .fail
    | ret e2 => cases q3 with
      | fail => exact .fail
      | ret e3 => exact .ret (by unfold eP3; rw [e1, e2, e3])
def P2M (f : α → α') (g : β → β') (p : α × β) : α' × β' := (f p.1, g p.2)
theorem cv_P2P {c : α → D} {c' : α' → D} {d : β → D} {d' : β' → D} {f : α → α'} {g : β → β'} (h1 : CvP c c' f) (h2 : CvP d d' g) : CvP (eP2 c d) (eP2 c' d') (P2M f g) := fun p => by
  unfold P2M eP2; rw [h1, h2]
end
end Mi
set_option Elab.async false
set_option linter.all false
set_option maxRecDepth 100000
set_option maxHeartbeats 1000000
namespace Mi.K19
open PySem PySem.Spec PyProof.Rows L2 Mi
def n_is_tuple (value : D) (least : Int) (most : Int) : T Bool :=
  ((isiT "tuple" value).bind fun v4 => if v4 then ((T.ret least).bind fun v1 => (intO (g1 lenD [value])).bind fun v2 => if (decide (v1 ≤ v2)) then (T.ret most).bind fun v3 => T.ret (decide (v2 ≤ v3)) else T.ret false) else T.ret false)
theorem k_is_tuple : FnN g_is_tuple (fun p : D × Int × Int × Unit => [eD p.1, eI p.2.1, eI p.2.2.1]) eB (fun p => n_is_tuple p.1 p.2.1 p.2.2.1) :=
  fn_st (fun _ => rfl) (fun ⟨value, least, most, _⟩ => st_cast (st_n [.frz (eD value), .frz (eI least), .frz (eI most)] rfl (st_ret (se_and (se_isi (f := isiT "tuple") isi_D (se_frz (e := eD) 0 rfl)) (se_chain op_le op_le (se_frz (e := eI) 1 rfl) (se_callT fn_intO (sh_consP (se_frz (e := eD) 0 rfl) sh_nil)) (se_frz (e := eI) 2 rfl) (trivial) (trivial) LEs.rfl') LEs.rfl' LEs.rfl'))) (by rfl))
def n_is_whole (value : D) : T Bool :=
  ((isiT "int" value).bind fun v2 => if v2 then ((isiT "bool" value).bind fun v1 => T.ret (!v1)) else T.ret false)
theorem k_is_whole : FnN g_is_whole (fun p : D × Unit => [eD p.1]) eB (fun p => n_is_whole p.1) :=
  fn_st (fun _ => rfl) (fun ⟨value, _⟩ => st_cast (st_n [.frz (eD value)] rfl (st_ret (se_and (se_isi (f := isiT "int") isi_D (se_frz (e := eD) 0 rfl)) (se_not (se_isi (f := isiT "bool") isi_D (se_frz (e := eD) 0 rfl))) LEs.rfl' LEs.rfl'))) (by rfl))
def n_is_integer (value : Int) (low : Int) (high : Int) : T Bool :=
  ((n_is_whole (eI value)).bind fun v1 => if v1 then (T.ret ((decide (low ≤ value)) && (decide (value ≤ high)))) else T.ret false)
theorem k_is_integer : FnN g_is_integer (fun p : Int × Int × Int × Unit => [eI p.1, eI p.2.1, eI p.2.2.1]) eB (fun p => n_is_integer p.1 p.2.1 p.2.2.1) :=
  fn_st (fun _ => rfl) (fun ⟨value, low, high, _⟩ => st_cast (st_n [.frz (eI value), .frz (eI low), .frz (eI high)] rfl (st_ret (se_and (se_defLP (k_is_whole) lf_B (sh_consP (se_asP (e' := eD) (y := eI value) (se_frz (e := eI) 0 rfl) rfl) sh_nil)) (se_chainP op_le op_le (se_frz (e := eI) 1 rfl) (se_frz (e := eI) 0 rfl) (se_frz (e := eI) 2 rfl) (trivial) (trivial) LEs.rfl') LEs.rfl' LEs.rfl'))) (by rfl))
def n_is_job (machines : Int) (value : (List Int)) : T Bool :=
  ((n_is_tuple ((eT eI) value) machines machines).bind fun v4 => if v4 then (((mapT (fun (one : Int) => (n_is_integer one (0 : Int) (1000 : Int))) value).bind fun v1 => T.ret (v1, ())).bind fun p3 => T.ret ((p3.1).all id)) else T.ret false)
theorem k_is_job : FnN g_is_job (fun p : Int × (List Int) × Unit => [eI p.1, (eT eI) p.2.1]) eB (fun p => n_is_job p.1 p.2.1) :=
  fn_st (fun _ => rfl) (fun ⟨machines, value, _⟩ => st_cast (st_n [.frz (eI machines), .frz ((eT eI) value), .nown] rfl (st_ret (se_and (se_defLP (k_is_tuple) lf_B (sh_consP (se_asP (e' := eD) (y := (eT eI) value) (se_frz (e := (eT eI)) 1 rfl) rfl) (sh_consP (se_frz (e := eI) 0 rfl) (sh_consP (se_frz (e := eI) 0 rfl) sh_nil)))) (se_call (FnP.r fn_allL) (sh_consL (se_n (se_compMP (c := eI) (e := eB) (si_seqP wk_T (se_frz (e := (eT eI)) 1 rfl)) rfl LEs.rfl' (fun one => (tg_n rfl)) (fun one => (se_defLP (k_is_integer) lf_B (sh_consP (se_frz (e := eI) 2 rfl) (sh_consP (se_c (e := eI) (0 : Int) rfl) (sh_consP (se_c (e := eI) (1000 : Int) rfl) sh_nil))))) (fun _ => LEs.rfl') (fun _ => LEs.rfl')) [.frz (eI machines), .frz ((eT eI) value), .nown] rfl) sh_nil)) LEs.rfl' LEs.rfl'))) (by rfl))
def n_check_jobs (value : (List (List Int))) (most : Int) (machines : Int) : T Unit :=
  (((((n_is_tuple ((eT (eT eI)) value) (1 : Int) most).bind fun v1 => T.ret (!v1)).bind fun v6 => if v6 then T.ret true else ((((mapT (fun (job : (List Int)) => (n_is_job machines job)) value).bind fun v2 => T.ret (v2, ())).bind fun p4 => T.ret ((p4.1).all id)).bind fun v5 => T.ret (!v5))).bind fun v10 => if v10 then T.fail else (T.ret ())).bind fun v8 => T.ret ())
theorem k_check_jobs : FnN g_check_jobs (fun p : (List (List Int)) × Int × Int × Unit => [(eT (eT eI)) p.1, eI p.2.1, eI p.2.2.1]) eN (fun p => n_check_jobs p.1 p.2.1 p.2.2.1) :=
  fn_ss2 (fun _ => rfl) (fun ⟨value, most, machines, _⟩ => (fn_at (N := fun _ => [.frz ((eT (eT eI)) value), .frz (eI most), .frz (eI machines), .nown]) (ss_cast (ss_n0 [.frz ((eT (eT eI)) value), .frz (eI most), .frz (eI machines), .nown] rfl (ss_done (ss_if (N := fun (v8 : Unit) => [.frz ((eT (eT eI)) value), .frz (eI most), .frz (eI machines), .nown]) (sx_or (sx_not (sx_val (se_defLP (k_is_tuple) lf_B (sh_consP (se_asP (e' := eD) (y := (eT (eT eI)) value) (se_frz (e := (eT (eT eI))) 0 rfl) rfl) (sh_consP (se_c (e := eI) (1 : Int) rfl) (sh_consP (se_frz (e := eI) 1 rfl) sh_nil)))))) (sx_not (sx_val (se_call (FnP.r fn_allL) (sh_consL (se_n (se_compMP (c := (eT eI)) (e := eB) (si_seqP wk_T (se_frz (e := (eT (eT eI))) 0 rfl)) rfl LEs.rfl' (fun job => (tg_n rfl)) (fun job => (se_defLP (k_is_job) lf_B (sh_consP (se_frz (e := eI) 2 rfl) (sh_consP (se_frz (e := (eT eI)) 3 rfl) sh_nil)))) (fun _ => LEs.rfl') (fun _ => LEs.rfl')) [.frz ((eT (eT eI)) value), .frz (eI most), .frz (eI machines), .nown] rfl) sh_nil)))) LEs.rfl' LEs.rfl') ss_never (ss_next () LEs.rfl')) (fun v8 => LEs.rfl'))) (by rfl))))
def n_is_order (many : Int) (value : (List Int)) : T Bool :=
  ((((n_is_tuple ((eT eI) value) many many).bind fun v1 => T.ret (!v1)).bind fun v6 => if v6 then T.ret true else ((((mapT (fun (one : Int) => (n_is_integer one (0 : Int) (many - (1 : Int)))) value).bind fun v2 => T.ret (v2, ())).bind fun p4 => T.ret ((p4.1).all id)).bind fun v5 => T.ret (!v5))).bind fun v7 => if v7 then (T.ret false) else ((dcT value).bind fun v8 => T.ret (decide (v8 = many))))
theorem k_is_order : FnN g_is_order (fun p : Int × (List Int) × Unit => [eI p.1, (eT eI) p.2.1]) eB (fun p => n_is_order p.1 p.2.1) :=
  fn_st (fun _ => rfl) (fun ⟨many, value, _⟩ => st_cast (st_n [.frz (eI many), .frz ((eT eI) value), .nown] rfl (st_ifret (sx_or (sx_not (sx_val (se_defLP (k_is_tuple) lf_B (sh_consP (se_asP (e' := eD) (y := (eT eI) value) (se_frz (e := (eT eI)) 1 rfl) rfl) (sh_consP (se_frz (e := eI) 0 rfl) (sh_consP (se_frz (e := eI) 0 rfl) sh_nil)))))) (sx_not (sx_val (se_call (FnP.r fn_allL) (sh_consL (se_n (se_compMP (c := eI) (e := eB) (si_seqP wk_T (se_frz (e := (eT eI)) 1 rfl)) rfl LEs.rfl' (fun one => (tg_n rfl)) (fun one => (se_defLP (k_is_integer) lf_B (sh_consP (se_frz (e := eI) 2 rfl) (sh_consP (se_c (e := eI) (0 : Int) rfl) (sh_consP (se_opP op_sub (se_frz (e := eI) 0 rfl) (se_c (e := eI) (1 : Int) rfl)) sh_nil))))) (fun _ => LEs.rfl') (fun _ => LEs.rfl')) [.frz (eI many), .frz ((eT eI) value), .nown] rfl) sh_nil)))) LEs.rfl' LEs.rfl') (st_ret (se_c (e := eB) false rfl)) (st_ret (se_opL (OpP.r (op_eq eq_I)) (se_unT un_dcT (se_frz (e := (eT eI)) 1 rfl)) (se_frz (e := eI) 0 rfl))))) (by rfl))
def n_check_order (many : Int) (value : (List Int)) : T Unit :=
  ((((n_is_order many value).bind fun v1 => T.ret (!v1)).bind fun v5 => if v5 then T.fail else (T.ret ())).bind fun v3 => T.ret ())
theorem k_check_order : FnN g_check_order (fun p : Int × (List Int) × Unit => [eI p.1, (eT eI) p.2.1]) eN (fun p => n_check_order p.1 p.2.1) :=
  fn_ss2 (fun _ => rfl) (fun ⟨many, value, _⟩ => (fn_at (N := fun _ => [.frz (eI many), .frz ((eT eI) value)]) (ss_cast (ss_n0 [.frz (eI many), .frz ((eT eI) value)] rfl (ss_done (ss_if (N := fun (v3 : Unit) => [.frz (eI many), .frz ((eT eI) value)]) (sx_not (sx_val (se_defLP (k_is_order) lf_B (sh_consP (se_frz (e := eI) 0 rfl) (sh_consP (se_frz (e := (eT eI)) 1 rfl) sh_nil))))) ss_never (ss_next () LEs.rfl')) (fun v3 => LEs.rfl'))) (by rfl))))
def n_ends_of_2 (s40 : ((List Int) × Int)) (machine_time : (Int × Int)) : T ((List Int) × Int) :=
  ((((((ixT s40.1 machine_time.1).bind fun v51 => T.ret (v51, ())).bind fun v54 => T.ret (s40.2, v54)).bind fun p55 => T.ret (max p55.1 p55.2.1)).bind fun v56 => T.ret (v56 + machine_time.2)).bind fun ready_57 => (((T.ret ready_57).bind fun v59 => (T.ret machine_time.1).bind fun v60 => stT s40.1 v60 v59).bind fun here58 => T.ret (here58, ready_57)))
def n_ends_of_1 (jobs : (List (List Int))) (s8 : ((List (List Int)) × (List Int))) (at_ : Int) : T ((List (List Int)) × (List Int)) :=
  ((T.ret (0 : Int)).bind fun ready_36 => (((((ixT jobs at_).bind fun v37 => T.ret (v37, ())).bind fun v39 => T.ret (enmL v39.1)).bind fun l => forT (n_ends_of_2) (s8.2, ready_36) l).bind fun v61 => ((appT s8.1 v61.1).bind fun found62 => T.ret (found62, v61.1))))
def n_ends_of (jobs : (List (List Int))) (order : (List Int)) : T (List (List Int)) :=
  ((((((ixT jobs (0 : Int)).bind fun v1 => T.ret (v1, ())).bind fun p3 => T.ret ((p3.1).length : Int)).bind fun v4 => (repLT ([(0 : Int)] : List Int) v4)).bind fun v5 => T.ret (v5, (([] : List (List Int)), ()))).bind fun v7 => ((forT (n_ends_of_1 jobs) (v7.2.1, v7.1) order).bind fun v63 => (T.ret v63.1)))
theorem k_ends_of : FnN g_ends_of (fun p : (List (List Int)) × (List Int) × Unit => [(eT (eT eI)) p.1, (eT eI) p.2.1]) (eT (eT eI)) (fun p => n_ends_of p.1 p.2.1) :=
  fn_st (fun _ => rfl) (fun ⟨jobs, order, _⟩ => st_cast (st_n [.frz ((eT (eT eI)) jobs), .frz ((eT eI) order), .nown, .nown, .nown, .nown, .nown, .nown] rfl (st_seq (ss_n (ss_par (sh_consL (se_opE op_repL (se_lstP (eo := eL eI) (fun (c : Int × Unit) => [c.1]) (fun _ => rfl) (sh_consP (se_c (e := eI) (0 : Int) rfl) sh_nil)) (se_call (FnP.r fn_lenT) (sh_consL (se_opT op_ixT (se_frz (e := (eT (eT eI))) 0 rfl) (se_c (e := eI) (0 : Int) rfl)) sh_nil))) (sh_consP (se_lstP (eo := eL (eT eI)) (fun (c : Unit) => []) (fun _ => rfl) sh_nil) sh_nil))) (fun v7 => [.frz ((eT (eT eI)) jobs), .frz ((eT eI) order), .own ((eL eI) v7.1), .own ((eL (eT eI)) v7.2.1), .nown, .nown, .nown, .nown]) (fun _ => rfl)) (fun v7 => (st_seq (ss_forP (c := eI) (I := fun (s8 : ((List (List Int)) × (List Int))) => [.frz ((eT (eT eI)) jobs), .frz ((eT eI) order), .own ((eL eI) s8.2), .own ((eL (eT eI)) s8.1), .nown, .nown, .nown, .nown]) (v7.2.1, v7.1) (si_seqP wk_T (se_frz (e := (eT eI)) 1 rfl)) LEs.rfl' (fun s8 at_ => (tg_n rfl)) (fun s8 at_ => (ss_seq (ss_n (ss_st (se_c (e := eI) (0 : Int) rfl) rfl) (fun ready_36 => [.frz ((eT (eT eI)) jobs), .frz ((eT eI) order), .own ((eL eI) s8.2), .own ((eL (eT eI)) s8.1), .frz (eI at_), .frz (eI ready_36), .nown, .nown]) (fun _ => rfl)) (fun ready_36 => (ss_seq (ss_for (c := (eP2 eI eI)) (I := fun (s40 : ((List Int) × Int)) => [.frz ((eT (eT eI)) jobs), .frz ((eT eI) order), .own ((eL eI) s40.1), .own ((eL (eT eI)) s8.1), .frz (eI at_), .frz (eI s40.2), .nown, .nown]) (s8.2, ready_36) (si_enum wk_T (sh_consL (se_opT op_ixT (se_frz (e := (eT (eT eI))) 0 rfl) (se_frz (e := eI) 4 rfl)) sh_nil)) LEs.rfl' (fun s40 machine_time => (tg_tup (tgs_cons (tg_n rfl) (tgs_cons (tg_n rfl) tgs_nil)))) (fun s40 machine_time => (ss_seq (ss_n (ss_st (se_opL (OpP.r op_add) (se_call (FnP.r fn_max2) (sh_consE (se_frz (e := eI) 5 rfl) (sh_consL (se_opT op_ixL (se_own (e := (eL eI)) 2 rfl) (se_frz (e := eI) 6 rfl) (K := ⟨⟨_, rfl, rfl⟩, trivial⟩)) sh_nil))) (se_frz (e := eI) 7 rfl)) rfl) (fun ready_57 => [.frz ((eT (eT eI)) jobs), .frz ((eT eI) order), .own ((eL eI) s40.1), .own ((eL (eT eI)) s8.1), .frz (eI at_), .frz (eI ready_57), .frz (eI machine_time.1), .frz (eI machine_time.2)]) (fun _ => rfl)) (fun ready_57 => (ss_done (ss_n (ss_store (se_frz (e := eI) 5 rfl) rfl (se_frz (e := eI) 6 rfl) rfl) (fun here58 => [.frz ((eT (eT eI)) jobs), .frz ((eT eI) order), .own ((eL eI) here58), .own ((eL (eT eI)) s8.1), .frz (eI at_), .frz (eI ready_57), .frz (eI machine_time.1), .frz (eI machine_time.2)]) (fun _ => rfl)) (fun here58 => ⟨.rfl, .rfl, .rfl, .rfl, .rfl, .rfl, .fn, .fn, trivial⟩)))))) (fun v61 => (ss_done (ss_n (ss_appP rfl (sh_consP (se_callP fn_tupleL (sh_consP (se_own (e := (eL eI)) 2 rfl) sh_nil (K := ⟨⟨_, rfl, rfl⟩, trivial⟩))) sh_nil) rfl) (fun found62 => [.frz ((eT (eT eI)) jobs), .frz ((eT eI) order), .own ((eL eI) v61.1), .own ((eL (eT eI)) found62), .frz (eI at_), .frz (eI v61.2), .nown, .nown]) (fun _ => rfl)) (fun found62 => ⟨.rfl, .rfl, .rfl, .rfl, .fn, .fn, .rfl, .rfl, trivial⟩)))))))) (fun v63 => (st_ret (se_callP fn_tupleL (sh_consP (se_own (e := (eL (eT eI))) 3 rfl) sh_nil (K := ⟨⟨_, rfl, rfl⟩, trivial⟩))))))))) (by rfl))
def n_ends (jobs : (List (List Int))) (order : (List Int)) : T (List (List Int)) :=
  ((n_check_jobs jobs (20 : Int) (2 : Int)).bind fun v1 => ((n_check_order ((jobs).length : Int) order).bind fun v2 => (n_ends_of jobs order)))
theorem k_ends : FnN g_ends (fun p : (List (List Int)) × (List Int) × Unit => [(eT (eT eI)) p.1, (eT eI) p.2.1]) (eT (eT eI)) (fun p => n_ends p.1 p.2.1) :=
  fn_st (fun _ => rfl) (fun ⟨jobs, order, _⟩ => st_cast (st_n [.frz ((eT (eT eI)) jobs), .frz ((eT eI) order)] rfl (st_seq (ss_n (ss_drop (se_defLP (k_check_jobs) lf_N (sh_consP (se_frz (e := (eT (eT eI))) 0 rfl) (sh_consP (se_c (e := eI) (20 : Int) rfl) (sh_consP (se_c (e := eI) (2 : Int) rfl) sh_nil))))) (fun v1 => [.frz ((eT (eT eI)) jobs), .frz ((eT eI) order)]) (fun _ => rfl)) (fun v1 => (st_seq (ss_n (ss_drop (se_defLP (k_check_order) lf_N (sh_consP (se_callP fn_lenT (sh_consP (se_frz (e := (eT (eT eI))) 0 rfl) sh_nil)) (sh_consP (se_frz (e := (eT eI)) 1 rfl) sh_nil)))) (fun v2 => [.frz ((eT (eT eI)) jobs), .frz ((eT eI) order)]) (fun _ => rfl)) (fun v2 => (st_ret (se_defLP (k_ends_of) (lf_T (lf_T lf_I)) (sh_consP (se_frz (e := (eT (eT eI))) 0 rfl) (sh_consP (se_frz (e := (eT eI)) 1 rfl) sh_nil))))))))) (by rfl))
def n_waits (jobs : (List (List Int))) (order : (List Int)) : T Int :=
  ((n_ends jobs order).bind fun told_1 => (((ixT told_1 (-(1 : Int))).bind fun v2 => (ixT v2 (1 : Int))).bind fun v7 => ((((mapT p2T jobs).bind fun l3 => T.ret (l3.map (fun (wash_wring : (Int × Int)) => wash_wring.2))).bind fun v4 => T.ret (v4, ())).bind fun p6 => T.ret (p6.1).sum).bind fun v8 => T.ret (v7 - v8)))
theorem k_waits : FnN g_waits (fun p : (List (List Int)) × (List Int) × Unit => [(eT (eT eI)) p.1, (eT eI) p.2.1]) eI (fun p => n_waits p.1 p.2.1) :=
  fn_st (fun _ => rfl) (fun ⟨jobs, order, _⟩ => st_cast (st_n [.frz ((eT (eT eI)) jobs), .frz ((eT eI) order), .nown, .nown, .nown] rfl (st_seq (ss_n (ss_st (se_defLP (k_ends) (lf_T (lf_T lf_I)) (sh_consP (se_frz (e := (eT (eT eI))) 0 rfl) (sh_consP (se_frz (e := (eT eI)) 1 rfl) sh_nil))) rfl) (fun told_1 => [.frz ((eT (eT eI)) jobs), .frz ((eT eI) order), .frz ((eT (eT eI)) told_1), .nown, .nown]) (fun _ => rfl)) (fun told_1 => (st_ret (se_op (OpP.r op_sub) (se_opL op_ixT (se_opT op_ixT (se_frz (e := (eT (eT eI))) 2 rfl) (se_unP un_neg (se_c (e := eI) (1 : Int) rfl))) (se_c (e := eI) (1 : Int) rfl)) (se_call (FnP.r fn_sumL) (sh_consL (se_n (se_compMQ (c := (eP2 eI eI)) (e := eI) (si_cvT cv_p2 (si_seqP wk_T (se_frz (e := (eT (eT eI))) 0 rfl))) rfl LEs.rfl' (fun wash_wring => (tg_tup (tgs_cons (tg_n rfl) (tgs_cons (tg_n rfl) tgs_nil)))) (fun wash_wring => (se_frz (e := eI) 4 rfl)) (fun _ => LEs.rfl') (fun _ => LEs.rfl')) [.frz ((eT (eT eI)) jobs), .frz ((eT eI) order), .frz ((eT (eT eI)) told_1), .nown, .nown] rfl) sh_nil))))))) (by rfl))
def n_johnson (jobs : (List (List Int))) : T (List Int) :=
  (((((mapT (P2T (fun x => T.ret (id x)) p2T) (enmL jobs)).bind fun l1 => T.ret ((l1.filter (fun (at__wash_wring : (Int × (Int × Int))) => (decide (at__wash_wring.2.1 ≤ at__wash_wring.2.2)))).map (fun (at__wash_wring : (Int × (Int × Int))) => (at__wash_wring.2.1, at__wash_wring.1)))).bind fun v2 => T.ret (v2, ())).bind fun p4 => T.ret (srtBy (lt2 ltI ltI) p4.1)).bind fun first_5 => (((((mapT (P2T (fun x => T.ret (id x)) p2T) (enmL jobs)).bind fun l6 => T.ret ((l6.filter (fun (at__wash_wring : (Int × (Int × Int))) => (decide (at__wash_wring.2.2 < at__wash_wring.2.1)))).map (fun (at__wash_wring : (Int × (Int × Int))) => ((-at__wash_wring.2.2), at__wash_wring.1)))).bind fun v7 => T.ret (v7, ())).bind fun p9 => T.ret (srtBy (lt2 ltI ltI) p9.1)).bind fun last_10 => ((((((T.ret first_5).bind fun v13 => ((T.ret last_10).bind fun v11 => (T.ret []).bind fun v12 => T.ret (v11 ++ v12)).bind fun v14 => T.ret (v13 ++ v14)).bind fewT).bind fun l15 => T.ret (l15.map (fun (time_at_ : (Int × Int)) => time_at_.2))).bind fun v16 => T.ret (v16, ())).bind fun p18 => T.ret p18.1)))
theorem k_johnson : FnN g_johnson (fun p : (List (List Int)) × Unit => [(eT (eT eI)) p.1]) (eT eI) (fun p => n_johnson p.1) :=
  fn_st (fun _ => rfl) (fun ⟨jobs, _⟩ => st_cast (st_n [.frz ((eT (eT eI)) jobs), .nown, .nown, .nown, .nown, .nown, .nown] rfl (st_seq (ss_n (ss_st (se_call (FnP.r (fn_sortL (or_P2 (k := 1) (OrdE.le or_I (by decide)) (OrdE.le or_I (by decide))))) (sh_consL (se_n (se_compQ (c := (eP2 eI (eP2 eI eI))) (e := (eP2 eI eI)) (si_cvT (cv_P2 (CvP.r cv_id) cv_p2) (si_enumP wk_T (sh_consP (se_frz (e := (eT (eT eI))) 0 rfl) sh_nil))) rfl LEs.rfl' (fun at__wash_wring => (tg_tup (tgs_cons (tg_n rfl) (tgs_cons (tg_tup (tgs_cons (tg_n rfl) (tgs_cons (tg_n rfl) tgs_nil))) tgs_nil)))) (fun at__wash_wring => (sx_val (se_opP op_le (se_frz (e := eI) 4 rfl) (se_frz (e := eI) 5 rfl)))) (fun at__wash_wring => (se_tupP (eo := (eP2 eI eI)) (fun (c : Int × Int × Unit) => (c.1, c.2.1)) (fun _ => rfl) (sh_consP (se_frz (e := eI) 4 rfl) (sh_consP (se_frz (e := eI) 3 rfl) sh_nil)))) (fun _ => LEs.rfl') (fun _ => LEs.rfl')) [.frz ((eT (eT eI)) jobs), .nown, .nown, .nown, .nown, .nown, .nown] rfl) sh_nil)) rfl) (fun first_5 => [.frz ((eT (eT eI)) jobs), .own ((eL (eP2 eI eI)) first_5), .nown, .nown, .nown, .nown, .nown]) (fun _ => rfl)) (fun first_5 => (st_seq (ss_n (ss_st (se_call (FnP.r (fn_sortL (or_P2 (k := 1) (OrdE.le or_I (by decide)) (OrdE.le or_I (by decide))))) (sh_consL (se_n (se_compQ (c := (eP2 eI (eP2 eI eI))) (e := (eP2 eI eI)) (si_cvT (cv_P2 (CvP.r cv_id) cv_p2) (si_enumP wk_T (sh_consP (se_frz (e := (eT (eT eI))) 0 rfl) sh_nil))) rfl LEs.rfl' (fun at__wash_wring => (tg_tup (tgs_cons (tg_n rfl) (tgs_cons (tg_tup (tgs_cons (tg_n rfl) (tgs_cons (tg_n rfl) tgs_nil))) tgs_nil)))) (fun at__wash_wring => (sx_val (se_opP op_gt (se_frz (e := eI) 4 rfl) (se_frz (e := eI) 5 rfl)))) (fun at__wash_wring => (se_tupP (eo := (eP2 eI eI)) (fun (c : Int × Int × Unit) => (c.1, c.2.1)) (fun _ => rfl) (sh_consP (se_unP un_neg (se_frz (e := eI) 5 rfl)) (sh_consP (se_frz (e := eI) 3 rfl) sh_nil)))) (fun _ => LEs.rfl') (fun _ => LEs.rfl')) [.frz ((eT (eT eI)) jobs), .own ((eL (eP2 eI eI)) first_5), .nown, .nown, .nown, .nown, .nown] rfl) sh_nil)) rfl) (fun last_10 => [.frz ((eT (eT eI)) jobs), .own ((eL (eP2 eI eI)) first_5), .own ((eL (eP2 eI eI)) last_10), .nown, .nown, .nown, .nown]) (fun _ => rfl)) (fun last_10 => (st_ret (se_call (FnP.r fn_tupleL) (sh_consL (se_n (se_compMQ (c := (eP2 eI eI)) (e := eI) (si_seq wk_L (se_lstS (e := (eP2 eI eI)) (sl_s wk_L (se_own (e := (eL (eP2 eI eI))) 1 rfl) (sl_s wk_L (se_own (e := (eL (eP2 eI eI))) 2 rfl) sl_n)))) rfl LEs.rfl' (fun time_at_ => (tg_tup (tgs_cons (tg_n rfl) (tgs_cons (tg_n rfl) tgs_nil)))) (fun time_at_ => (se_frz (e := eI) 3 rfl)) (fun _ => LEs.rfl') (fun _ => LEs.rfl')) [.frz ((eT (eT eI)) jobs), .any ((eL (eP2 eI eI)) first_5), .any ((eL (eP2 eI eI)) last_10), .nown, .nown, .nown, .nown] rfl) sh_nil)))))))) (by rfl))
def n_johnson__1 (jobs : (List (Int × Int))) : T (List Int) :=
  ((T.ret (srtBy (lt2 ltI ltI) (((enmL jobs).filter (fun (at__wash_wring : (Int × (Int × Int))) => (decide (at__wash_wring.2.1 ≤ at__wash_wring.2.2)))).map (fun (at__wash_wring : (Int × (Int × Int))) => (at__wash_wring.2.1, at__wash_wring.1))))).bind fun first_1 => ((T.ret (srtBy (lt2 ltI ltI) (((enmL jobs).filter (fun (at__wash_wring : (Int × (Int × Int))) => (decide (at__wash_wring.2.2 < at__wash_wring.2.1)))).map (fun (at__wash_wring : (Int × (Int × Int))) => ((-at__wash_wring.2.2), at__wash_wring.1))))).bind fun last_2 => ((((((T.ret first_1).bind fun v5 => ((T.ret last_2).bind fun v3 => (T.ret []).bind fun v4 => T.ret (v3 ++ v4)).bind fun v6 => T.ret (v5 ++ v6)).bind fewT).bind fun l7 => T.ret (l7.map (fun (time_at_ : (Int × Int)) => time_at_.2))).bind fun v8 => T.ret (v8, ())).bind fun p10 => T.ret p10.1)))
theorem k_johnson__1 : FnN g_johnson (fun p : (List (Int × Int)) × Unit => [(eL (eP2 eI eI)) p.1]) (eT eI) (fun p => n_johnson__1 p.1) :=
  fn_st (fun _ => rfl) (fun ⟨jobs, _⟩ => st_cast (st_n [.frz ((eL (eP2 eI eI)) jobs), .nown, .nown, .nown, .nown, .nown, .nown] rfl (st_seq (ss_n (ss_st (se_callP (fn_sortL (or_P2 (k := 1) (OrdE.le or_I (by decide)) (OrdE.le or_I (by decide)))) (sh_consP (se_n (se_compPP (c := (eP2 eI (eP2 eI eI))) (e := (eP2 eI eI)) (si_enumP wk_L (sh_consP (se_frz (e := (eL (eP2 eI eI))) 0 rfl) sh_nil)) rfl LEs.rfl' (fun at__wash_wring => (tg_tup (tgs_cons (tg_n rfl) (tgs_cons (tg_tup (tgs_cons (tg_n rfl) (tgs_cons (tg_n rfl) tgs_nil))) tgs_nil)))) (fun at__wash_wring => (sx_val (se_opP op_le (se_frz (e := eI) 4 rfl) (se_frz (e := eI) 5 rfl)))) (fun at__wash_wring => (se_tupP (eo := (eP2 eI eI)) (fun (c : Int × Int × Unit) => (c.1, c.2.1)) (fun _ => rfl) (sh_consP (se_frz (e := eI) 4 rfl) (sh_consP (se_frz (e := eI) 3 rfl) sh_nil)))) (fun _ => LEs.rfl') (fun _ => LEs.rfl')) [.frz ((eL (eP2 eI eI)) jobs), .nown, .nown, .nown, .nown, .nown, .nown] rfl) sh_nil)) rfl) (fun first_1 => [.frz ((eL (eP2 eI eI)) jobs), .own ((eL (eP2 eI eI)) first_1), .nown, .nown, .nown, .nown, .nown]) (fun _ => rfl)) (fun first_1 => (st_seq (ss_n (ss_st (se_callP (fn_sortL (or_P2 (k := 1) (OrdE.le or_I (by decide)) (OrdE.le or_I (by decide)))) (sh_consP (se_n (se_compPP (c := (eP2 eI (eP2 eI eI))) (e := (eP2 eI eI)) (si_enumP wk_L (sh_consP (se_frz (e := (eL (eP2 eI eI))) 0 rfl) sh_nil)) rfl LEs.rfl' (fun at__wash_wring => (tg_tup (tgs_cons (tg_n rfl) (tgs_cons (tg_tup (tgs_cons (tg_n rfl) (tgs_cons (tg_n rfl) tgs_nil))) tgs_nil)))) (fun at__wash_wring => (sx_val (se_opP op_gt (se_frz (e := eI) 4 rfl) (se_frz (e := eI) 5 rfl)))) (fun at__wash_wring => (se_tupP (eo := (eP2 eI eI)) (fun (c : Int × Int × Unit) => (c.1, c.2.1)) (fun _ => rfl) (sh_consP (se_unP un_neg (se_frz (e := eI) 5 rfl)) (sh_consP (se_frz (e := eI) 3 rfl) sh_nil)))) (fun _ => LEs.rfl') (fun _ => LEs.rfl')) [.frz ((eL (eP2 eI eI)) jobs), .own ((eL (eP2 eI eI)) first_1), .nown, .nown, .nown, .nown, .nown] rfl) sh_nil)) rfl) (fun last_2 => [.frz ((eL (eP2 eI eI)) jobs), .own ((eL (eP2 eI eI)) first_1), .own ((eL (eP2 eI eI)) last_2), .nown, .nown, .nown, .nown]) (fun _ => rfl)) (fun last_2 => (st_ret (se_call (FnP.r fn_tupleL) (sh_consL (se_n (se_compMQ (c := (eP2 eI eI)) (e := eI) (si_seq wk_L (se_lstS (e := (eP2 eI eI)) (sl_s wk_L (se_own (e := (eL (eP2 eI eI))) 1 rfl) (sl_s wk_L (se_own (e := (eL (eP2 eI eI))) 2 rfl) sl_n)))) rfl LEs.rfl' (fun time_at_ => (tg_tup (tgs_cons (tg_n rfl) (tgs_cons (tg_n rfl) tgs_nil)))) (fun time_at_ => (se_frz (e := eI) 3 rfl)) (fun _ => LEs.rfl') (fun _ => LEs.rfl')) [.frz ((eL (eP2 eI eI)) jobs), .any ((eL (eP2 eI eI)) first_1), .any ((eL (eP2 eI eI)) last_2), .nown, .nown, .nown, .nown] rfl) sh_nil)))))))) (by rfl))
def n_soonest (jobs : (List (List Int))) : T (Int × (List Int)) :=
  ((n_check_jobs jobs (20 : Int) (2 : Int)).bind fun v1 => ((n_johnson jobs).bind fun order_2 => (((((n_ends_of jobs order_2).bind fun v3 => (ixT v3 (-(1 : Int)))).bind fun v4 => (ixT v4 (1 : Int))).bind fun v5 => T.ret (v5, (order_2, ()))).bind fun v7 => T.ret (v7.1, v7.2.1))))
theorem k_soonest : FnN g_soonest (fun p : (List (List Int)) × Unit => [(eT (eT eI)) p.1]) (eP2 eI (eT eI)) (fun p => n_soonest p.1) :=
  fn_st (fun _ => rfl) (fun ⟨jobs, _⟩ => st_cast (st_n [.frz ((eT (eT eI)) jobs), .nown] rfl (st_seq (ss_n (ss_drop (se_defLP (k_check_jobs) lf_N (sh_consP (se_frz (e := (eT (eT eI))) 0 rfl) (sh_consP (se_c (e := eI) (20 : Int) rfl) (sh_consP (se_c (e := eI) (2 : Int) rfl) sh_nil))))) (fun v1 => [.frz ((eT (eT eI)) jobs), .nown]) (fun _ => rfl)) (fun v1 => (st_seq (ss_n (ss_st (se_defLP (k_johnson) (lf_T lf_I) (sh_consP (se_frz (e := (eT (eT eI))) 0 rfl) sh_nil)) rfl) (fun order_2 => [.frz ((eT (eT eI)) jobs), .frz ((eT eI) order_2)]) (fun _ => rfl)) (fun order_2 => (st_ret (se_tup (eo := (eP2 eI (eT eI))) (fun (c : Int × (List Int) × Unit) => (c.1, c.2.1)) (fun _ => rfl) (sh_consL (se_opL op_ixT (se_opL op_ixT (se_defLP (k_ends_of) (lf_T (lf_T lf_I)) (sh_consP (se_frz (e := (eT (eT eI))) 0 rfl) (sh_consP (se_frz (e := (eT eI)) 1 rfl) sh_nil))) (se_unP un_neg (se_c (e := eI) (1 : Int) rfl))) (se_c (e := eI) (1 : Int) rfl)) (sh_consP (se_frz (e := (eT eI)) 1 rfl) sh_nil))))))))) (by rfl))
def n_shows_soonest (jobs : (List (List Int))) (value : (Int × (List Int))) : T Bool :=
  (((n_soonest jobs).bind fun v1 => T.ret v1.1).bind fun time_2 => ((((n_is_tuple ((eP2 eI (eT eI)) value) (2 : Int) (2 : Int)).bind fun v3 => T.ret (!v3)).bind fun v7 => if v7 then T.ret true else (((n_is_order ((jobs).length : Int) value.2).bind fun v4 => T.ret (!v4)).bind fun v6 => if v6 then T.ret true else ((n_is_integer value.1 time_2 time_2).bind fun v5 => T.ret (!v5)))).bind fun v8 => if v8 then (T.ret false) else ((((n_ends_of jobs value.2).bind fun v9 => (ixT v9 (-(1 : Int)))).bind fun v10 => (ixT v10 (1 : Int))).bind fun v11 => T.ret (decide (v11 = time_2)))))
theorem k_shows_soonest : FnN g_shows_soonest (fun p : (List (List Int)) × (Int × (List Int)) × Unit => [(eT (eT eI)) p.1, (eP2 eI (eT eI)) p.2.1]) eB (fun p => n_shows_soonest p.1 p.2.1) :=
  fn_st (fun _ => rfl) (fun ⟨jobs, value, _⟩ => st_cast (st_n [.frz ((eT (eT eI)) jobs), .frz ((eP2 eI (eT eI)) value), .nown] rfl (st_seq (ss_n (ss_st (se_opL (OpP.r op_p20) (se_defLP (k_soonest) (lf_P2 lf_I (lf_T lf_I)) (sh_consP (se_frz (e := (eT (eT eI))) 0 rfl) sh_nil)) (se_c (e := fun _ : Unit => D.int 0) () rfl)) rfl) (fun time_2 => [.frz ((eT (eT eI)) jobs), .frz ((eP2 eI (eT eI)) value), .frz (eI time_2)]) (fun _ => rfl)) (fun time_2 => (st_ifret (sx_or (sx_not (sx_val (se_defLP (k_is_tuple) lf_B (sh_consP (se_asP (e' := eD) (y := (eP2 eI (eT eI)) value) (se_frz (e := (eP2 eI (eT eI))) 1 rfl) rfl) (sh_consP (se_c (e := eI) (2 : Int) rfl) (sh_consP (se_c (e := eI) (2 : Int) rfl) sh_nil)))))) (sx_or (sx_not (sx_val (se_defLP (k_is_order) lf_B (sh_consP (se_callP fn_lenT (sh_consP (se_frz (e := (eT (eT eI))) 0 rfl) sh_nil)) (sh_consP (se_opP op_p21 (se_frz (e := (eP2 eI (eT eI))) 1 rfl) (se_c (e := fun _ : Unit => D.int 1) () rfl)) sh_nil))))) (sx_not (sx_val (se_defLP (k_is_integer) lf_B (sh_consP (se_opP op_p20 (se_frz (e := (eP2 eI (eT eI))) 1 rfl) (se_c (e := fun _ : Unit => D.int 0) () rfl)) (sh_consP (se_frz (e := eI) 2 rfl) (sh_consP (se_frz (e := eI) 2 rfl) sh_nil)))))) LEs.rfl' LEs.rfl') LEs.rfl' LEs.rfl') (st_ret (se_c (e := eB) false rfl)) (st_ret (se_opL (OpP.r (op_eq eq_I)) (se_opL op_ixT (se_opL op_ixT (se_defLP (k_ends_of) (lf_T (lf_T lf_I)) (sh_consP (se_frz (e := (eT (eT eI))) 0 rfl) (sh_consP (se_opP op_p21 (se_frz (e := (eP2 eI (eT eI))) 1 rfl) (se_c (e := fun _ : Unit => D.int 1) () rfl)) sh_nil))) (se_unP un_neg (se_c (e := eI) (1 : Int) rfl))) (se_c (e := eI) (1 : Int) rfl)) (se_frz (e := eI) 2 rfl))))))) (by rfl))
def n_all_orders_2 (many : Int) (s48 : (List (List Int))) (row_ : (List Int)) : T (List (List Int)) :=
  (((((rngT 0 many).bind fun l63 => (filT (fun (one : Int) => (T.ret (!decide (one ∈ row_)))) (fun (one : Int) => (((T.ret row_).bind fun v61 => ((T.ret one).bind fun v59 => (T.ret []).bind fun v60 => T.ret (v59 :: v60)).bind fun v62 => T.ret (v61 ++ v62)).bind fewT)) l63)).bind fun v64 => T.ret (v64, ())).bind fun p66 => extT s48 p66.1).bind fun longer58 => T.ret longer58)
def n_all_orders_1 (many : Int) (s2 : (List (List Int))) (lap : Int) : T (List (List Int)) :=
  ((T.ret ([] : List (List Int))).bind fun longer_47 => ((forT (n_all_orders_2 many) longer_47 s2).bind fun v67 => ((T.ret v67).bind fun found_68 => T.ret found_68)))
def n_all_orders (many : Int) : T (List (List Int)) :=
  ((T.ret ([([] : List Int)] : List (List Int))).bind fun found_1 => (((rngT 0 many).bind fun l => forT (n_all_orders_1 many) found_1 l).bind fun v69 => (T.ret v69)))
theorem k_all_orders : FnN g_all_orders (fun p : Int × Unit => [eI p.1]) (eL (eT eI)) (fun p => n_all_orders p.1) :=
  fn_st (fun _ => rfl) (fun ⟨many, _⟩ => st_cast (st_n [.frz (eI many), .nown, .nown, .nown, .nown, .nown] rfl (st_seq (ss_n (ss_st (se_lstP (eo := eL (eT eI)) (fun (c : (List Int) × Unit) => [c.1]) (fun _ => rfl) (sh_consP (se_tupP (eo := eT eI) (fun (c : Unit) => []) (fun _ => rfl) sh_nil) sh_nil)) rfl) (fun found_1 => [.frz (eI many), .own ((eL (eT eI)) found_1), .nown, .nown, .nown, .nown]) (fun _ => rfl)) (fun found_1 => (st_seq (ss_for (c := eI) (I := fun (s2 : (List (List Int))) => [.frz (eI many), .any ((eL (eT eI)) s2), .nown, .unk, .nown, .nown]) found_1 (si_rng1P (sh_consP (se_frz (e := eI) 0 rfl) sh_nil)) ⟨.rfl, .oa, .rfl, .unk, .rfl, .rfl, trivial⟩ (fun s2 lap => (tg_n rfl)) (fun s2 lap => (ss_seq (ss_n (ss_st (se_lstP (eo := eL (eT eI)) (fun (c : Unit) => []) (fun _ => rfl) sh_nil) rfl) (fun longer_47 => [.frz (eI many), .any ((eL (eT eI)) s2), .frz (eI lap), .own ((eL (eT eI)) longer_47), .nown, .nown]) (fun _ => rfl)) (fun longer_47 => (ss_seq (ss_forP (c := (eT eI)) (I := fun (s48 : (List (List Int))) => [.frz (eI many), .any ((eL (eT eI)) s2), .frz (eI lap), .own ((eL (eT eI)) s48), .nown, .nown]) longer_47 (si_seqP wk_L (se_any (e := (eL (eT eI))) 1 rfl)) LEs.rfl' (fun s48 row_ => (tg_n rfl)) (fun s48 row_ => (ss_done (ss_n (ss_ext rfl (sh_consL (se_n (se_comp (c := eI) (e := (eT eI)) (si_rng1P (sh_consP (se_frz (e := eI) 0 rfl) sh_nil)) rfl LEs.rfl' (fun one => (tg_n rfl)) (fun one => (sx_val (se_opP (op_niT eq_I) (se_frz (e := eI) 5 rfl) (se_frz (e := (eT eI)) 4 rfl)))) (fun one => (se_tupS (e := eI) (sl_s wk_T (se_frz (e := (eT eI)) 4 rfl) (sl_c (se_frz (e := eI) 5 rfl) sl_n)))) (fun _ => LEs.rfl') (fun _ => LEs.rfl')) [.frz (eI many), .any ((eL (eT eI)) s2), .frz (eI lap), .own ((eL (eT eI)) s48), .frz ((eT eI) row_), .nown] rfl) sh_nil) rfl) (fun longer58 => [.frz (eI many), .any ((eL (eT eI)) s2), .frz (eI lap), .own ((eL (eT eI)) longer58), .frz ((eT eI) row_), .nown]) (fun _ => rfl)) (fun longer58 => ⟨.rfl, .rfl, .rfl, .rfl, .fn, .rfl, trivial⟩)))) (fun v67 => (ss_done (ss_n (ss_st (se_own (e := (eL (eT eI))) 3 rfl) rfl) (fun found_68 => [.frz (eI many), .any ((eL (eT eI)) found_68), .frz (eI lap), .any ((eL (eT eI)) v67), .nown, .nown]) (fun _ => rfl)) (fun found_68 => ⟨.rfl, .rfl, .fn, .unk, .rfl, .rfl, trivial⟩)))))))) (fun v69 => (st_ret (se_any (e := (eL (eT eI))) 1 rfl))))))) (by rfl))
def n_soonest_three (jobs : (List (List Int))) : T (Int × (List Int)) :=
  ((n_check_jobs jobs (6 : Int) (3 : Int)).bind fun v1 => ((((n_all_orders ((jobs).length : Int)).bind fun l7 => mapT (fun (order : (List Int)) => (((((n_ends_of jobs order).bind fun v2 => (ixT v2 (-(1 : Int)))).bind fun v3 => (ixT v3 (2 : Int))).bind fun v4 => T.ret (v4, (order, ()))).bind fun v6 => T.ret (v6.1, v6.2.1))) l7).bind fun v8 => T.ret (v8, ())).bind fun p10 => (minT (lt2 ltI (ltLs ltI)) p10.1)))
theorem k_soonest_three : FnN g_soonest_three (fun p : (List (List Int)) × Unit => [(eT (eT eI)) p.1]) (eP2 eI (eT eI)) (fun p => n_soonest_three p.1) :=
  fn_st (fun _ => rfl) (fun ⟨jobs, _⟩ => st_cast (st_n [.frz ((eT (eT eI)) jobs), .nown] rfl (st_seq (ss_n (ss_drop (se_defLP (k_check_jobs) lf_N (sh_consP (se_frz (e := (eT (eT eI))) 0 rfl) (sh_consP (se_c (e := eI) (6 : Int) rfl) (sh_consP (se_c (e := eI) (3 : Int) rfl) sh_nil))))) (fun v1 => [.frz ((eT (eT eI)) jobs), .nown]) (fun _ => rfl)) (fun v1 => (st_ret (se_call (fn_minL (or_P2 (k := 2) (OrdE.le or_I (by decide)) (OrdE.le (or_T or_I) (by decide)))) (sh_consL (se_n (se_compM (c := (eT eI)) (e := (eP2 eI (eT eI))) (si_seq wk_L (se_defP (k_all_orders) (sh_consP (se_callP fn_lenT (sh_consP (se_frz (e := (eT (eT eI))) 0 rfl) sh_nil)) sh_nil))) rfl LEs.rfl' (fun order => (tg_n rfl)) (fun order => (se_tup (eo := (eP2 eI (eT eI))) (fun (c : Int × (List Int) × Unit) => (c.1, c.2.1)) (fun _ => rfl) (sh_consL (se_opL op_ixT (se_opL op_ixT (se_defLP (k_ends_of) (lf_T (lf_T lf_I)) (sh_consP (se_frz (e := (eT (eT eI))) 0 rfl) (sh_consP (se_frz (e := (eT eI)) 1 rfl) sh_nil))) (se_unP un_neg (se_c (e := eI) (1 : Int) rfl))) (se_c (e := eI) (2 : Int) rfl)) (sh_consP (se_frz (e := (eT eI)) 1 rfl) sh_nil)))) (fun _ => LEs.rfl') (fun _ => LEs.rfl')) [.frz ((eT (eT eI)) jobs), .nown] rfl) sh_nil)))))) (by rfl))
def n_middle_rule (jobs : (List (List Int))) : T (Int × (List Int) × Bool) :=
  ((n_check_jobs jobs (20 : Int) (3 : Int)).bind fun v1 => (((((mapT p3T jobs).bind fun l3 => T.ret (l3.map (fun (wash_wring_iron : (Int × Int × Int)) => ((wash_wring_iron.1 + wash_wring_iron.2.1), (wash_wring_iron.2.1 + wash_wring_iron.2.2))))).bind fun v4 => T.ret (v4, ())).bind fun p6 => (n_johnson__1 p6.1)).bind fun order_7 => (((((mapT p3T jobs).bind fun l8 => T.ret (l8.map (fun (wash_wring_iron : (Int × Int × Int)) => wash_wring_iron.2.1))).bind fun v9 => T.ret (v9, ())).bind fun p11 => (maxT p11.1)).bind fun middle_12 => (((((((mapT p3T jobs).bind fun l13 => T.ret (l13.map (fun (wash_wring_iron : (Int × Int × Int)) => wash_wring_iron.1))).bind fun v14 => T.ret (v14, ())).bind fun p16 => (minT ltI p16.1)).bind fun v17 => T.ret (decide (middle_12 ≤ v17))).bind fun v23 => if v23 then T.ret true else (((((mapT p3T jobs).bind fun l18 => T.ret (l18.map (fun (wash_wring_iron : (Int × Int × Int)) => wash_wring_iron.2.2))).bind fun v19 => T.ret (v19, ())).bind fun p21 => (minT ltI p21.1)).bind fun v22 => T.ret (decide (middle_12 ≤ v22)))).bind fun is_sure_24 => (((((n_ends_of jobs order_7).bind fun v25 => (ixT v25 (-(1 : Int)))).bind fun v26 => (ixT v26 (2 : Int))).bind fun v27 => T.ret (v27, (order_7, (is_sure_24, ())))).bind fun v29 => T.ret (v29.1, v29.2.1, v29.2.2.1))))))
theorem k_middle_rule : FnN g_middle_rule (fun p : (List (List Int)) × Unit => [(eT (eT eI)) p.1]) (eP3 eI (eT eI) eB) (fun p => n_middle_rule p.1) :=
  fn_st (fun _ => rfl) (fun ⟨jobs, _⟩ => st_cast (st_n [.frz ((eT (eT eI)) jobs), .nown, .nown, .nown, .nown, .nown, .nown] rfl (st_seq (ss_n (ss_drop (se_defLP (k_check_jobs) lf_N (sh_consP (se_frz (e := (eT (eT eI))) 0 rfl) (sh_consP (se_c (e := eI) (20 : Int) rfl) (sh_consP (se_c (e := eI) (3 : Int) rfl) sh_nil))))) (fun v1 => [.frz ((eT (eT eI)) jobs), .nown, .nown, .nown, .nown, .nown, .nown]) (fun _ => rfl)) (fun v1 => (st_seq (ss_n (ss_st (se_defL (k_johnson__1) (lf_T lf_I) (sh_consL (se_n (se_compMQ (c := (eP3 eI eI eI)) (e := (eP2 eI eI)) (si_cvT cv_p3 (si_seqP wk_T (se_frz (e := (eT (eT eI))) 0 rfl))) rfl LEs.rfl' (fun wash_wring_iron => (tg_tup (tgs_cons (tg_n rfl) (tgs_cons (tg_n rfl) (tgs_cons (tg_n rfl) tgs_nil))))) (fun wash_wring_iron => (se_tupP (eo := (eP2 eI eI)) (fun (c : Int × Int × Unit) => (c.1, c.2.1)) (fun _ => rfl) (sh_consP (se_opP op_add (se_frz (e := eI) 4 rfl) (se_frz (e := eI) 5 rfl)) (sh_consP (se_opP op_add (se_frz (e := eI) 5 rfl) (se_frz (e := eI) 6 rfl)) sh_nil)))) (fun _ => LEs.rfl') (fun _ => LEs.rfl')) [.frz ((eT (eT eI)) jobs), .nown, .nown, .nown, .nown, .nown, .nown] rfl) sh_nil)) rfl) (fun order_7 => [.frz ((eT (eT eI)) jobs), .frz ((eT eI) order_7), .nown, .nown, .nown, .nown, .nown]) (fun _ => rfl)) (fun order_7 => (st_seq (ss_n (ss_st (se_call fn_maxL (sh_consL (se_n (se_compMQ (c := (eP3 eI eI eI)) (e := eI) (si_cvT cv_p3 (si_seqP wk_T (se_frz (e := (eT (eT eI))) 0 rfl))) rfl LEs.rfl' (fun wash_wring_iron => (tg_tup (tgs_cons (tg_n rfl) (tgs_cons (tg_n rfl) (tgs_cons (tg_n rfl) tgs_nil))))) (fun wash_wring_iron => (se_frz (e := eI) 5 rfl)) (fun _ => LEs.rfl') (fun _ => LEs.rfl')) [.frz ((eT (eT eI)) jobs), .frz ((eT eI) order_7), .nown, .nown, .nown, .nown, .nown] rfl) sh_nil)) rfl) (fun middle_12 => [.frz ((eT (eT eI)) jobs), .frz ((eT eI) order_7), .frz (eI middle_12), .nown, .nown, .nown, .nown]) (fun _ => rfl)) (fun middle_12 => (st_seq (ss_n (ss_st (se_or (se_opL (OpP.r op_ge) (se_call (fn_minL or_I) (sh_consL (se_n (se_compMQ (c := (eP3 eI eI eI)) (e := eI) (si_cvT cv_p3 (si_seqP wk_T (se_frz (e := (eT (eT eI))) 0 rfl))) rfl LEs.rfl' (fun wash_wring_iron => (tg_tup (tgs_cons (tg_n rfl) (tgs_cons (tg_n rfl) (tgs_cons (tg_n rfl) tgs_nil))))) (fun wash_wring_iron => (se_frz (e := eI) 4 rfl)) (fun _ => LEs.rfl') (fun _ => LEs.rfl')) [.frz ((eT (eT eI)) jobs), .frz ((eT eI) order_7), .frz (eI middle_12), .nown, .nown, .nown, .nown] rfl) sh_nil)) (se_frz (e := eI) 2 rfl)) (se_opL (OpP.r op_ge) (se_call (fn_minL or_I) (sh_consL (se_n (se_compMQ (c := (eP3 eI eI eI)) (e := eI) (si_cvT cv_p3 (si_seqP wk_T (se_frz (e := (eT (eT eI))) 0 rfl))) rfl LEs.rfl' (fun wash_wring_iron => (tg_tup (tgs_cons (tg_n rfl) (tgs_cons (tg_n rfl) (tgs_cons (tg_n rfl) tgs_nil))))) (fun wash_wring_iron => (se_frz (e := eI) 6 rfl)) (fun _ => LEs.rfl') (fun _ => LEs.rfl')) [.frz ((eT (eT eI)) jobs), .frz ((eT eI) order_7), .frz (eI middle_12), .nown, .nown, .nown, .nown] rfl) sh_nil)) (se_frz (e := eI) 2 rfl)) LEs.rfl' LEs.rfl') rfl) (fun is_sure_24 => [.frz ((eT (eT eI)) jobs), .frz ((eT eI) order_7), .frz (eI middle_12), .frz (eB is_sure_24), .nown, .nown, .nown]) (fun _ => rfl)) (fun is_sure_24 => (st_ret (se_tup (eo := (eP3 eI (eT eI) eB)) (fun (c : Int × (List Int) × Bool × Unit) => (c.1, c.2.1, c.2.2.1)) (fun _ => rfl) (sh_consL (se_opL op_ixT (se_opL op_ixT (se_defLP (k_ends_of) (lf_T (lf_T lf_I)) (sh_consP (se_frz (e := (eT (eT eI))) 0 rfl) (sh_consP (se_frz (e := (eT eI)) 1 rfl) sh_nil))) (se_unP un_neg (se_c (e := eI) (1 : Int) rfl))) (se_c (e := eI) (2 : Int) rfl)) (sh_consP (se_frz (e := (eT eI)) 1 rfl) (sh_consP (se_frz (e := eB) 3 rfl) sh_nil)))))))))))))) (by rfl))
def n__law_of {a : Type} (ea : a → D) (pot : Unit) (some_ : (List a)) : T a :=
  ((drawT ((some_).length : Int)).bind fun v1 => (ixT some_ v1))
theorem k__law_of {a : Type} (ea : a → D) : FnN g__law_of (fun p : Unit × (List a) × Unit => [ePot p.1, (eL ea) p.2.1]) ea (fun p => n__law_of ea p.1 p.2.1) :=
  fn_st (fun _ => rfl) (fun ⟨pot, some_, _⟩ => st_cast (st_n [.frz (ePot pot), .frz ((eL ea) some_)] rfl (st_ret (se_opE op_ixL (se_frz (e := (eL ea)) 1 rfl) (se_defLP fn_take lf_I (sh_consP (se_frz (e := ePot) 0 rfl) (sh_consP (se_callP fn_lenL (sh_consP (se_frz (e := (eL ea)) 1 rfl) sh_nil)) sh_nil)))))) (by rfl))
def n__law_cells (script : (List Int)) (most : Int) : T (List Int) :=
  ((T.ret (max (1 : Int) (min most ((script).length : Int)))).bind fun v1 => rngT 0 v1)
theorem k__law_cells : FnN g__law_cells (fun p : (List Int) × Int × Unit => [eScr p.1, eI p.2.1]) (eL eI) (fun p => n__law_cells p.1 p.2.1) :=
  fn_st (fun _ => rfl) (fun ⟨script, most, _⟩ => st_cast (st_n [.frz (eScr script), .frz (eI most)] rfl (st_ret (se_rg1 mk_L (se_callP fn_max2 (sh_consP (se_c (e := eI) (1 : Int) rfl) (sh_consP (se_callP fn_min2 (sh_consP (se_frz (e := eI) 1 rfl) (sh_consP (se_callP fn_lenScr (sh_consP (se_frz (e := eScr) 0 rfl) sh_nil)) sh_nil))) sh_nil)))))) (by rfl))
def n__law_some_1 {a : Type} (ea : a → D) (pot : Unit) (s2 : ((List a) × (List a))) (lap : Int) : T ((List a) × (List a)) :=
  (((((drawT ((s2.2).length : Int)).bind fun v10 => T.ret (v10, ())).bind fun p12 => popT s2.2 p12.1).bind fun p13 => (appT s2.1 p13.1).bind fun v14 => T.ret (v14, p13.2)).bind fun found9 => T.ret (found9.1, found9.2))
def n__law_some {a : Type} (ea : a → D) (pot : Unit) (pool : (List a)) (many : Int) : T (List a) :=
  ((T.ret (pool, (([] : List a), ()))).bind fun v1 => (((rngT 0 many).bind fun l => forT (n__law_some_1 ea pot) (v1.2.1, v1.1) l).bind fun v15 => (T.ret v15.1)))
theorem k__law_some {a : Type} (ea : a → D) : FnN g__law_some (fun p : Unit × (List a) × Int × Unit => [ePot p.1, (eL ea) p.2.1, eI p.2.2.1]) (eL ea) (fun p => n__law_some ea p.1 p.2.1 p.2.2.1) :=
  fn_st (fun _ => rfl) (fun ⟨pot, pool, many, _⟩ => st_cast (st_n [.frz (ePot pot), .frz ((eL ea) pool), .frz (eI many), .nown, .nown, .nown] rfl (st_seq (ss_n (ss_par (sh_consP (se_callP fn_listL (sh_consP (se_frz (e := (eL ea)) 1 rfl) sh_nil)) (sh_consP (se_lstP (eo := eL ea) (fun (c : Unit) => []) (fun _ => rfl) sh_nil) sh_nil))) (fun v1 => [.frz (ePot pot), .frz ((eL ea) pool), .frz (eI many), .own ((eL ea) v1.1), .own ((eL ea) v1.2.1), .nown]) (fun _ => rfl)) (fun v1 => (st_seq (ss_for (c := eI) (I := fun (s2 : ((List a) × (List a))) => [.frz (ePot pot), .frz ((eL ea) pool), .frz (eI many), .own ((eL ea) s2.2), .own ((eL ea) s2.1), .nown]) (v1.2.1, v1.1) (si_rng1P (sh_consP (se_frz (e := eI) 2 rfl) sh_nil)) LEs.rfl' (fun s2 lap => (tg_n rfl)) (fun s2 lap => (ss_done (ss_n (ss_appM rfl (sm_pop rfl (sh_consL (se_defLP fn_take lf_I (sh_consP (se_frz (e := ePot) 0 rfl) (sh_consP (se_callP fn_lenL (sh_consP (se_own (e := (eL ea)) 3 rfl) sh_nil (K := ⟨⟨_, rfl, rfl⟩, trivial⟩))) sh_nil))) sh_nil) rfl) (fun _ => rfl)) (fun found9 => [.frz (ePot pot), .frz ((eL ea) pool), .frz (eI many), .own ((eL ea) found9.2), .own ((eL ea) found9.1), .frz (eI lap)]) (fun _ => rfl)) (fun found9 => ⟨.rfl, .rfl, .rfl, .rfl, .rfl, .fn, trivial⟩)))) (fun v15 => (st_ret (se_own (e := (eL ea)) 4 rfl))))))) (by rfl))
def n__law_is_bool (told : Bool) (due : Bool) : T Bool :=
  ((isiT "bool" (eB told)).bind fun v1 => if v1 then (T.ret (decide (told = due))) else T.ret false)
theorem k__law_is_bool : FnN g__law_is_bool (fun p : Bool × Bool × Unit => [eB p.1, eB p.2.1]) eB (fun p => n__law_is_bool p.1 p.2.1) :=
  fn_st (fun _ => rfl) (fun ⟨told, due, _⟩ => st_cast (st_n [.frz (eB told), .frz (eB due)] rfl (st_ret (se_and (se_isi (f := isiT "bool") isi_D (se_asP (e' := eD) (y := eB told) (se_frz (e := eB) 0 rfl) rfl)) (se_opP (op_eq eq_B) (se_frz (e := eB) 0 rfl) (se_frz (e := eB) 1 rfl)) LEs.rfl' LEs.rfl'))) (by rfl))
def n__law_jobs_1 (pot : Unit) (machines : Int) (top : Int) (s4 : (List (List Int))) (at_ : Int) : T (List (List Int)) :=
  (((((((rngT 0 machines).bind fun l29 => mapT (fun (machine : Int) => (((drawT top).bind fun v26 => T.ret (v26, ())).bind fun p28 => T.ret p28.1)) l29).bind fun v30 => T.ret (v30, ())).bind fun p32 => T.ret p32.1).bind fun v33 => T.ret (v33, ())).bind fun p35 => appT s4 p35.1).bind fun found25 => (((if (decide ((0 : Int) < at_)) then ((drawT (5 : Int)).bind fun v36 => T.ret (decide (v36 = (0 : Int)))) else T.ret false).bind fun v44 => if v44 then (((ixT found25 (-(2 : Int))).bind fun v42 => (T.ret (-(1 : Int))).bind fun v43 => stT found25 v43 v42).bind fun found41 => T.ret found41) else (T.ret found25)).bind fun v40 => T.ret v40))
def n__law_jobs (pot : Unit) (many : Int) (machines : Int) : T (List (List Int)) :=
  (((n__law_of (eI) pot ([(4 : Int), (60 : Int), (1001 : Int)] : List Int)).bind fun v1 => T.ret (v1, (([] : List (List Int)), ()))).bind fun v3 => (((rngT 0 many).bind fun l => forT (n__law_jobs_1 pot machines v3.1) v3.2.1 l).bind fun v45 => (T.ret v45)))
theorem k__law_jobs : FnN g__law_jobs (fun p : Unit × Int × Int × Unit => [ePot p.1, eI p.2.1, eI p.2.2.1]) (eT (eT eI)) (fun p => n__law_jobs p.1 p.2.1 p.2.2.1) :=
  fn_st (fun _ => rfl) (fun ⟨pot, many, machines, _⟩ => st_cast (st_n [.frz (ePot pot), .frz (eI many), .frz (eI machines), .nown, .nown, .nown, .nown] rfl (st_seq (ss_n (ss_par (sh_consL (se_defLP (k__law_of (eI)) lf_I (sh_consP (se_frz (e := ePot) 0 rfl) (sh_consP (se_lstP (eo := eL eI) (fun (c : Int × Int × Int × Unit) => [c.1, c.2.1, c.2.2.1]) (fun _ => rfl) (sh_consP (se_c (e := eI) (4 : Int) rfl) (sh_consP (se_c (e := eI) (60 : Int) rfl) (sh_consP (se_c (e := eI) (1001 : Int) rfl) sh_nil)))) sh_nil))) (sh_consP (se_lstP (eo := eL (eT eI)) (fun (c : Unit) => []) (fun _ => rfl) sh_nil) sh_nil))) (fun v3 => [.frz (ePot pot), .frz (eI many), .frz (eI machines), .frz (eI v3.1), .own ((eL (eT eI)) v3.2.1), .nown, .nown]) (fun _ => rfl)) (fun v3 => (st_seq (ss_for (c := eI) (I := fun (s4 : (List (List Int))) => [.frz (ePot pot), .frz (eI many), .frz (eI machines), .frz (eI v3.1), .own ((eL (eT eI)) s4), .nown, .nown]) v3.2.1 (si_rng1P (sh_consP (se_frz (e := eI) 1 rfl) sh_nil)) LEs.rfl' (fun s4 at_ => (tg_n rfl)) (fun s4 at_ => (ss_seq (ss_n (ss_app rfl (sh_consL (se_call (FnP.r fn_tupleL) (sh_consL (se_n (se_compM (c := eI) (e := eI) (si_rng1P (sh_consP (se_frz (e := eI) 2 rfl) sh_nil)) rfl LEs.rfl' (fun machine => (tg_n rfl)) (fun machine => (se_call (FnP.r fn_int) (sh_consL (se_defLP fn_take lf_I (sh_consP (se_frz (e := ePot) 0 rfl) (sh_consP (se_frz (e := eI) 3 rfl) sh_nil))) sh_nil))) (fun _ => LEs.rfl') (fun _ => LEs.rfl')) [.frz (ePot pot), .frz (eI many), .frz (eI machines), .frz (eI (v3.1)), .own ((eL (eT eI)) s4), .frz (eI at_), .nown] rfl) sh_nil)) sh_nil) rfl) (fun found25 => [.frz (ePot pot), .frz (eI many), .frz (eI machines), .frz (eI (v3.1)), .own ((eL (eT eI)) found25), .frz (eI at_), .nown]) (fun _ => rfl)) (fun found25 => (ss_done (ss_if (N := fun (v40 : (List (List Int))) => [.frz (ePot pot), .frz (eI many), .frz (eI machines), .frz (eI (v3.1)), .own ((eL (eT eI)) v40), .frz (eI at_), .nown]) (sx_andL (sx_val (se_opP op_gt (se_frz (e := eI) 5 rfl) (se_c (e := eI) (0 : Int) rfl))) (sx_val (se_opL (OpP.r (op_eq eq_I)) (se_defLP fn_take lf_I (sh_consP (se_frz (e := ePot) 0 rfl) (sh_consP (se_c (e := eI) (5 : Int) rfl) sh_nil))) (se_c (e := eI) (0 : Int) rfl))) LEs.rfl' LEs.rfl') (ss_done (ss_n (ss_store (se_opT op_ixL (se_own (e := (eL (eT eI))) 4 rfl) (se_unP un_neg (se_c (e := eI) (2 : Int) rfl)) (K := ⟨⟨_, rfl, rfl⟩, trivial⟩)) rfl (se_unP un_neg (se_c (e := eI) (1 : Int) rfl)) rfl) (fun found41 => [.frz (ePot pot), .frz (eI many), .frz (eI machines), .frz (eI (v3.1)), .own ((eL (eT eI)) found41), .frz (eI at_), .nown]) (fun _ => rfl)) (fun found41 => LEs.rfl')) (ss_next found25 LEs.rfl')) (fun v40 => ⟨.rfl, .rfl, .rfl, .rfl, .rfl, .fn, .rfl, trivial⟩)))))) (fun v45 => (st_ret (se_callP fn_tupleL (sh_consP (se_own (e := (eL (eT eI))) 4 rfl) sh_nil (K := ⟨⟨_, rfl, rfl⟩, trivial⟩))))))))) (by rfl))
def n__law_ends_2 (s34 : ((List Int) × Int)) (machine_time : (Int × Int)) : T ((List Int) × Int) :=
  ((((((ixT s34.1 machine_time.1).bind fun v45 => T.ret (v45, ())).bind fun v48 => T.ret (s34.2, v48)).bind fun p49 => T.ret (max p49.1 p49.2.1)).bind fun v50 => T.ret (v50 + machine_time.2)).bind fun ready_51 => (((T.ret ready_51).bind fun v53 => (T.ret machine_time.1).bind fun v54 => stT s34.1 v54 v53).bind fun free52 => T.ret (free52, ready_51)))
def n__law_ends_1 (jobs : (List (List Int))) (s2 : ((List (List Int)) × (List Int))) (at_ : Int) : T ((List (List Int)) × (List Int)) :=
  ((T.ret (0 : Int)).bind fun ready_30 => (((((ixT jobs at_).bind fun v31 => T.ret (v31, ())).bind fun v33 => T.ret (enmL v33.1)).bind fun l => forT (n__law_ends_2) (s2.2, ready_30) l).bind fun v55 => ((appT s2.1 v55.1).bind fun found56 => T.ret (found56, v55.1))))
def n__law_ends (jobs : (List (List Int))) (order : (List Int)) (begin : (List Int)) : T (List (List Int)) :=
  ((T.ret (begin, (([] : List (List Int)), ()))).bind fun v1 => ((forT (n__law_ends_1 jobs) (v1.2.1, v1.1) order).bind fun v57 => (T.ret v57.1)))
theorem k__law_ends : FnN g__law_ends (fun p : (List (List Int)) × (List Int) × (List Int) × Unit => [(eT (eT eI)) p.1, (eL eI) p.2.1, (eT eI) p.2.2.1]) (eL (eT eI)) (fun p => n__law_ends p.1 p.2.1 p.2.2.1) :=
  fn_st (fun _ => rfl) (fun ⟨jobs, order, begin, _⟩ => st_cast (st_n [.frz ((eT (eT eI)) jobs), .frz ((eL eI) order), .frz ((eT eI) begin), .nown, .nown, .nown, .nown, .nown, .nown] rfl (st_seq (ss_n (ss_par (sh_consP (se_callP fn_listT (sh_consP (se_frz (e := (eT eI)) 2 rfl) sh_nil)) (sh_consP (se_lstP (eo := eL (eT eI)) (fun (c : Unit) => []) (fun _ => rfl) sh_nil) sh_nil))) (fun v1 => [.frz ((eT (eT eI)) jobs), .frz ((eL eI) order), .frz ((eT eI) begin), .own ((eL eI) v1.1), .own ((eL (eT eI)) v1.2.1), .nown, .nown, .nown, .nown]) (fun _ => rfl)) (fun v1 => (st_seq (ss_forP (c := eI) (I := fun (s2 : ((List (List Int)) × (List Int))) => [.frz ((eT (eT eI)) jobs), .frz ((eL eI) order), .frz ((eT eI) begin), .own ((eL eI) s2.2), .own ((eL (eT eI)) s2.1), .nown, .nown, .nown, .nown]) (v1.2.1, v1.1) (si_seqP wk_L (se_frz (e := (eL eI)) 1 rfl)) LEs.rfl' (fun s2 at_ => (tg_n rfl)) (fun s2 at_ => (ss_seq (ss_n (ss_st (se_c (e := eI) (0 : Int) rfl) rfl) (fun ready_30 => [.frz ((eT (eT eI)) jobs), .frz ((eL eI) order), .frz ((eT eI) begin), .own ((eL eI) s2.2), .own ((eL (eT eI)) s2.1), .frz (eI at_), .frz (eI ready_30), .nown, .nown]) (fun _ => rfl)) (fun ready_30 => (ss_seq (ss_for (c := (eP2 eI eI)) (I := fun (s34 : ((List Int) × Int)) => [.frz ((eT (eT eI)) jobs), .frz ((eL eI) order), .frz ((eT eI) begin), .own ((eL eI) s34.1), .own ((eL (eT eI)) s2.1), .frz (eI at_), .frz (eI s34.2), .nown, .nown]) (s2.2, ready_30) (si_enum wk_T (sh_consL (se_opT op_ixT (se_frz (e := (eT (eT eI))) 0 rfl) (se_frz (e := eI) 5 rfl)) sh_nil)) LEs.rfl' (fun s34 machine_time => (tg_tup (tgs_cons (tg_n rfl) (tgs_cons (tg_n rfl) tgs_nil)))) (fun s34 machine_time => (ss_seq (ss_n (ss_st (se_opL (OpP.r op_add) (se_call (FnP.r fn_max2) (sh_consE (se_frz (e := eI) 6 rfl) (sh_consL (se_opT op_ixL (se_own (e := (eL eI)) 3 rfl) (se_frz (e := eI) 7 rfl) (K := ⟨⟨_, rfl, rfl⟩, trivial⟩)) sh_nil))) (se_frz (e := eI) 8 rfl)) rfl) (fun ready_51 => [.frz ((eT (eT eI)) jobs), .frz ((eL eI) order), .frz ((eT eI) begin), .own ((eL eI) s34.1), .own ((eL (eT eI)) s2.1), .frz (eI at_), .frz (eI ready_51), .frz (eI machine_time.1), .frz (eI machine_time.2)]) (fun _ => rfl)) (fun ready_51 => (ss_done (ss_n (ss_store (se_frz (e := eI) 6 rfl) rfl (se_frz (e := eI) 7 rfl) rfl) (fun free52 => [.frz ((eT (eT eI)) jobs), .frz ((eL eI) order), .frz ((eT eI) begin), .own ((eL eI) free52), .own ((eL (eT eI)) s2.1), .frz (eI at_), .frz (eI ready_51), .frz (eI machine_time.1), .frz (eI machine_time.2)]) (fun _ => rfl)) (fun free52 => ⟨.rfl, .rfl, .rfl, .rfl, .rfl, .rfl, .rfl, .fn, .fn, trivial⟩)))))) (fun v55 => (ss_done (ss_n (ss_appP rfl (sh_consP (se_callP fn_tupleL (sh_consP (se_own (e := (eL eI)) 3 rfl) sh_nil (K := ⟨⟨_, rfl, rfl⟩, trivial⟩))) sh_nil) rfl) (fun found56 => [.frz ((eT (eT eI)) jobs), .frz ((eL eI) order), .frz ((eT eI) begin), .own ((eL eI) v55.1), .own ((eL (eT eI)) found56), .frz (eI at_), .frz (eI v55.2), .nown, .nown]) (fun _ => rfl)) (fun found56 => ⟨.rfl, .rfl, .rfl, .rfl, .rfl, .fn, .fn, .rfl, .rfl, trivial⟩)))))))) (fun v57 => (st_ret (se_own (e := (eL (eT eI))) 4 rfl))))))) (by rfl))
def n__law_ends__1_2 (s34 : ((List Int) × Int)) (machine_time : (Int × Int)) : T ((List Int) × Int) :=
  ((((((ixT s34.1 machine_time.1).bind fun v45 => T.ret (v45, ())).bind fun v48 => T.ret (s34.2, v48)).bind fun p49 => T.ret (max p49.1 p49.2.1)).bind fun v50 => T.ret (v50 + machine_time.2)).bind fun ready_51 => (((T.ret ready_51).bind fun v53 => (T.ret machine_time.1).bind fun v54 => stT s34.1 v54 v53).bind fun free52 => T.ret (free52, ready_51)))
def n__law_ends__1_1 (jobs : (List (List Int))) (s2 : ((List (List Int)) × (List Int))) (at_ : Int) : T ((List (List Int)) × (List Int)) :=
  ((T.ret (0 : Int)).bind fun ready_30 => (((((ixT jobs at_).bind fun v31 => T.ret (v31, ())).bind fun v33 => T.ret (enmL v33.1)).bind fun l => forT (n__law_ends__1_2) (s2.2, ready_30) l).bind fun v55 => ((appT s2.1 v55.1).bind fun found56 => T.ret (found56, v55.1))))
def n__law_ends__1 (jobs : (List (List Int))) (order : (List Int)) (begin : (List Int)) : T (List (List Int)) :=
  ((T.ret (begin, (([] : List (List Int)), ()))).bind fun v1 => ((forT (n__law_ends__1_1 jobs) (v1.2.1, v1.1) order).bind fun v57 => (T.ret v57.1)))
theorem k__law_ends__1 : FnN g__law_ends (fun p : (List (List Int)) × (List Int) × (List Int) × Unit => [(eT (eT eI)) p.1, (eT eI) p.2.1, (eT eI) p.2.2.1]) (eL (eT eI)) (fun p => n__law_ends__1 p.1 p.2.1 p.2.2.1) :=
  fn_st (fun _ => rfl) (fun ⟨jobs, order, begin, _⟩ => st_cast (st_n [.frz ((eT (eT eI)) jobs), .frz ((eT eI) order), .frz ((eT eI) begin), .nown, .nown, .nown, .nown, .nown, .nown] rfl (st_seq (ss_n (ss_par (sh_consP (se_callP fn_listT (sh_consP (se_frz (e := (eT eI)) 2 rfl) sh_nil)) (sh_consP (se_lstP (eo := eL (eT eI)) (fun (c : Unit) => []) (fun _ => rfl) sh_nil) sh_nil))) (fun v1 => [.frz ((eT (eT eI)) jobs), .frz ((eT eI) order), .frz ((eT eI) begin), .own ((eL eI) v1.1), .own ((eL (eT eI)) v1.2.1), .nown, .nown, .nown, .nown]) (fun _ => rfl)) (fun v1 => (st_seq (ss_forP (c := eI) (I := fun (s2 : ((List (List Int)) × (List Int))) => [.frz ((eT (eT eI)) jobs), .frz ((eT eI) order), .frz ((eT eI) begin), .own ((eL eI) s2.2), .own ((eL (eT eI)) s2.1), .nown, .nown, .nown, .nown]) (v1.2.1, v1.1) (si_seqP wk_T (se_frz (e := (eT eI)) 1 rfl)) LEs.rfl' (fun s2 at_ => (tg_n rfl)) (fun s2 at_ => (ss_seq (ss_n (ss_st (se_c (e := eI) (0 : Int) rfl) rfl) (fun ready_30 => [.frz ((eT (eT eI)) jobs), .frz ((eT eI) order), .frz ((eT eI) begin), .own ((eL eI) s2.2), .own ((eL (eT eI)) s2.1), .frz (eI at_), .frz (eI ready_30), .nown, .nown]) (fun _ => rfl)) (fun ready_30 => (ss_seq (ss_for (c := (eP2 eI eI)) (I := fun (s34 : ((List Int) × Int)) => [.frz ((eT (eT eI)) jobs), .frz ((eT eI) order), .frz ((eT eI) begin), .own ((eL eI) s34.1), .own ((eL (eT eI)) s2.1), .frz (eI at_), .frz (eI s34.2), .nown, .nown]) (s2.2, ready_30) (si_enum wk_T (sh_consL (se_opT op_ixT (se_frz (e := (eT (eT eI))) 0 rfl) (se_frz (e := eI) 5 rfl)) sh_nil)) LEs.rfl' (fun s34 machine_time => (tg_tup (tgs_cons (tg_n rfl) (tgs_cons (tg_n rfl) tgs_nil)))) (fun s34 machine_time => (ss_seq (ss_n (ss_st (se_opL (OpP.r op_add) (se_call (FnP.r fn_max2) (sh_consE (se_frz (e := eI) 6 rfl) (sh_consL (se_opT op_ixL (se_own (e := (eL eI)) 3 rfl) (se_frz (e := eI) 7 rfl) (K := ⟨⟨_, rfl, rfl⟩, trivial⟩)) sh_nil))) (se_frz (e := eI) 8 rfl)) rfl) (fun ready_51 => [.frz ((eT (eT eI)) jobs), .frz ((eT eI) order), .frz ((eT eI) begin), .own ((eL eI) s34.1), .own ((eL (eT eI)) s2.1), .frz (eI at_), .frz (eI ready_51), .frz (eI machine_time.1), .frz (eI machine_time.2)]) (fun _ => rfl)) (fun ready_51 => (ss_done (ss_n (ss_store (se_frz (e := eI) 6 rfl) rfl (se_frz (e := eI) 7 rfl) rfl) (fun free52 => [.frz ((eT (eT eI)) jobs), .frz ((eT eI) order), .frz ((eT eI) begin), .own ((eL eI) free52), .own ((eL (eT eI)) s2.1), .frz (eI at_), .frz (eI ready_51), .frz (eI machine_time.1), .frz (eI machine_time.2)]) (fun _ => rfl)) (fun free52 => ⟨.rfl, .rfl, .rfl, .rfl, .rfl, .rfl, .rfl, .fn, .fn, trivial⟩)))))) (fun v55 => (ss_done (ss_n (ss_appP rfl (sh_consP (se_callP fn_tupleL (sh_consP (se_own (e := (eL eI)) 3 rfl) sh_nil (K := ⟨⟨_, rfl, rfl⟩, trivial⟩))) sh_nil) rfl) (fun found56 => [.frz ((eT (eT eI)) jobs), .frz ((eT eI) order), .frz ((eT eI) begin), .own ((eL eI) v55.1), .own ((eL (eT eI)) found56), .frz (eI at_), .frz (eI v55.2), .nown, .nown]) (fun _ => rfl)) (fun found56 => ⟨.rfl, .rfl, .rfl, .rfl, .rfl, .fn, .fn, .rfl, .rfl, trivial⟩)))))))) (fun v57 => (st_ret (se_own (e := (eL (eT eI))) 4 rfl))))))) (by rfl))
def n__law_best (jobs : (List (List Int))) : T Int :=
  (((((mapT (P2T (fun x => T.ret (id x)) p2T) (enmL jobs)).bind fun l1 => T.ret ((l1.filter (fun (at__wash_wring : (Int × (Int × Int))) => (decide (at__wash_wring.2.1 < at__wash_wring.2.2)))).map (fun (at__wash_wring : (Int × (Int × Int))) => (at__wash_wring.2.1, at__wash_wring.1)))).bind fun v2 => T.ret (v2, ())).bind fun p4 => T.ret (srtBy (lt2 ltI ltI) p4.1)).bind fun first_5 => (((((mapT (P2T (fun x => T.ret (id x)) p2T) (enmL jobs)).bind fun l6 => T.ret ((l6.filter (fun (at__wash_wring : (Int × (Int × Int))) => (decide (at__wash_wring.2.2 ≤ at__wash_wring.2.1)))).map (fun (at__wash_wring : (Int × (Int × Int))) => ((-at__wash_wring.2.2), at__wash_wring.1)))).bind fun v7 => T.ret (v7, ())).bind fun p9 => T.ret (srtBy (lt2 ltI ltI) p9.1)).bind fun last_10 => (((((((catT first_5 last_10).bind fun l12 => T.ret (l12.map (fun (time_at_ : (Int × Int)) => time_at_.2))).bind fun v13 => T.ret (v13, (([(0 : Int), (0 : Int)] : List Int), ()))).bind fun v16 => T.ret (jobs, v16)).bind fun p17 => (n__law_ends p17.1 p17.2.1 p17.2.2.1)).bind fun v18 => (ixT v18 (-(1 : Int)))).bind fun v19 => (ixT v19 (1 : Int)))))
theorem k__law_best : FnN g__law_best (fun p : (List (List Int)) × Unit => [(eT (eT eI)) p.1]) eI (fun p => n__law_best p.1) :=
  fn_st (fun _ => rfl) (fun ⟨jobs, _⟩ => st_cast (st_n [.frz ((eT (eT eI)) jobs), .nown, .nown, .nown, .nown, .nown, .nown] rfl (st_seq (ss_n (ss_st (se_call (FnP.r (fn_sortL (or_P2 (k := 1) (OrdE.le or_I (by decide)) (OrdE.le or_I (by decide))))) (sh_consL (se_n (se_compQ (c := (eP2 eI (eP2 eI eI))) (e := (eP2 eI eI)) (si_cvT (cv_P2 (CvP.r cv_id) cv_p2) (si_enumP wk_T (sh_consP (se_frz (e := (eT (eT eI))) 0 rfl) sh_nil))) rfl LEs.rfl' (fun at__wash_wring => (tg_tup (tgs_cons (tg_n rfl) (tgs_cons (tg_tup (tgs_cons (tg_n rfl) (tgs_cons (tg_n rfl) tgs_nil))) tgs_nil)))) (fun at__wash_wring => (sx_val (se_opP op_ltI (se_frz (e := eI) 4 rfl) (se_frz (e := eI) 5 rfl)))) (fun at__wash_wring => (se_tupP (eo := (eP2 eI eI)) (fun (c : Int × Int × Unit) => (c.1, c.2.1)) (fun _ => rfl) (sh_consP (se_frz (e := eI) 4 rfl) (sh_consP (se_frz (e := eI) 3 rfl) sh_nil)))) (fun _ => LEs.rfl') (fun _ => LEs.rfl')) [.frz ((eT (eT eI)) jobs), .nown, .nown, .nown, .nown, .nown, .nown] rfl) sh_nil)) rfl) (fun first_5 => [.frz ((eT (eT eI)) jobs), .own ((eL (eP2 eI eI)) first_5), .nown, .nown, .nown, .nown, .nown]) (fun _ => rfl)) (fun first_5 => (st_seq (ss_n (ss_st (se_call (FnP.r (fn_sortL (or_P2 (k := 1) (OrdE.le or_I (by decide)) (OrdE.le or_I (by decide))))) (sh_consL (se_n (se_compQ (c := (eP2 eI (eP2 eI eI))) (e := (eP2 eI eI)) (si_cvT (cv_P2 (CvP.r cv_id) cv_p2) (si_enumP wk_T (sh_consP (se_frz (e := (eT (eT eI))) 0 rfl) sh_nil))) rfl LEs.rfl' (fun at__wash_wring => (tg_tup (tgs_cons (tg_n rfl) (tgs_cons (tg_tup (tgs_cons (tg_n rfl) (tgs_cons (tg_n rfl) tgs_nil))) tgs_nil)))) (fun at__wash_wring => (sx_val (se_opP op_ge (se_frz (e := eI) 4 rfl) (se_frz (e := eI) 5 rfl)))) (fun at__wash_wring => (se_tupP (eo := (eP2 eI eI)) (fun (c : Int × Int × Unit) => (c.1, c.2.1)) (fun _ => rfl) (sh_consP (se_unP un_neg (se_frz (e := eI) 5 rfl)) (sh_consP (se_frz (e := eI) 3 rfl) sh_nil)))) (fun _ => LEs.rfl') (fun _ => LEs.rfl')) [.frz ((eT (eT eI)) jobs), .own ((eL (eP2 eI eI)) first_5), .nown, .nown, .nown, .nown, .nown] rfl) sh_nil)) rfl) (fun last_10 => [.frz ((eT (eT eI)) jobs), .own ((eL (eP2 eI eI)) first_5), .own ((eL (eP2 eI eI)) last_10), .nown, .nown, .nown, .nown]) (fun _ => rfl)) (fun last_10 => (st_ret (se_opL op_ixT (se_opL op_ixL (se_def (k__law_ends) (sh_consE (se_frz (e := (eT (eT eI))) 0 rfl) (sh_consL (se_n (se_compMQ (c := (eP2 eI eI)) (e := eI) (si_seq wk_L (se_opT op_catL (se_own (e := (eL (eP2 eI eI))) 1 rfl) (se_own (e := (eL (eP2 eI eI))) 2 rfl) (K := ⟨⟨_, rfl, rfl⟩, trivial⟩))) rfl LEs.rfl' (fun time_at_ => (tg_tup (tgs_cons (tg_n rfl) (tgs_cons (tg_n rfl) tgs_nil)))) (fun time_at_ => (se_frz (e := eI) 3 rfl)) (fun _ => LEs.rfl') (fun _ => LEs.rfl')) [.frz ((eT (eT eI)) jobs), .own ((eL (eP2 eI eI)) first_5), .own ((eL (eP2 eI eI)) last_10), .nown, .nown, .nown, .nown] rfl) (sh_consP (se_tupP (eo := eT eI) (fun (c : Int × Int × Unit) => [c.1, c.2.1]) (fun _ => rfl) (sh_consP (se_c (e := eI) (0 : Int) rfl) (sh_consP (se_c (e := eI) (0 : Int) rfl) sh_nil))) sh_nil)))) (se_unP un_neg (se_c (e := eI) (1 : Int) rfl))) (se_c (e := eI) (1 : Int) rfl)))))))) (by rfl))
def n__law_are_shifts_right_1 (jobs : (List (List Int))) (best : Int) (alone : (List Int)) (s70 : Unit) (part__its_rest_ : (Int × (List (List Int)) × (List (List Int)))) : T (Ctl Unit Unit Bool) :=
  ((((ixT alone part__its_rest_.1).bind fun v100 => (n__law_best part__its_rest_.2.1).bind fun v101 => T.ret (!decide (v100 = v101))).bind fun v103 => if v103 then T.ret true else ((ixT alone part__its_rest_.1).bind fun v102 => T.ret (decide (best < v102)))).bind fun v104 => if v104 then (T.ret (Ctl.rt false)) else (((((((mapT p2T jobs).bind fun l105 => T.ret (l105.map (fun (wash_wring : (Int × Int)) => wash_wring.1))).bind fun v106 => T.ret (v106, ())).bind fun p108 => T.ret (p108.1).sum).bind fun v113 => ((((mapT p2T jobs).bind fun l109 => T.ret (l109.map (fun (wash_wring : (Int × Int)) => wash_wring.2))).bind fun v110 => T.ret (v110, ())).bind fun p112 => (minT ltI p112.1)).bind fun v114 => T.ret (v113 + v114)).bind fun v115 => T.ret (decide (best < v115))).bind fun v116 => if v116 then (T.ret (Ctl.rt false)) else (((((((mapT p2T jobs).bind fun l117 => T.ret (l117.map (fun (wash_wring : (Int × Int)) => wash_wring.2))).bind fun v118 => T.ret (v118, ())).bind fun p120 => T.ret (p120.1).sum).bind fun v125 => ((((mapT p2T jobs).bind fun l121 => T.ret (l121.map (fun (wash_wring : (Int × Int)) => wash_wring.1))).bind fun v122 => T.ret (v122, ())).bind fun p124 => (minT ltI p124.1)).bind fun v126 => T.ret (v125 + v126)).bind fun v127 => T.ret (decide (best < v127))).bind fun v128 => if v128 then (T.ret (Ctl.rt false)) else (T.ret (Ctl.nx ())))))
def n__law_are_shifts_right_3 (jobs : (List (List Int))) (best : Int) (its : Int) (some_ : (List Int)) (s183 : Unit) (number : Int) : T (Ctl Unit Unit Bool) :=
  (((((n_shows_soonest jobs (number, some_)).bind fun v189 => T.ret (v189, (((decide (number = its)) && (decide (its = best))), ()))).bind fun p191 => (n__law_is_bool p191.1 p191.2.1)).bind fun v192 => T.ret (!v192)).bind fun v193 => if v193 then (T.ret (Ctl.rt false)) else (T.ret (Ctl.nx ())))
def n__law_are_shifts_right_2 (jobs : (List (List Int))) (best : Int) (s162 : Unit) (some_ : (List Int)) : T (Ctl Unit Unit Bool) :=
  ((((n__law_ends__1 jobs some_ ([(0 : Int), (0 : Int)] : List Int)).bind fun v179 => (ixT v179 (-(1 : Int)))).bind fun v180 => (ixT v180 (1 : Int))).bind fun its_181 => (if (decide (its_181 < best)) then (T.ret (Ctl.rt false)) else ((forC (n__law_are_shifts_right_3 jobs best its_181 some_) () ([its_181, best] : List Int)).bind (Ctl.k fun v194 => T.ret (Ctl.nx ())))))
def n__law_are_shifts_right (pot : Unit) (one : (List (List Int))) (other : (List (List Int))) : T Bool :=
  (((catT one other).bind fun v1 => T.ret (v1, ((((one).length : Int) + ((other).length : Int)), ()))).bind fun v3 => ((mapT (fun (part_ : (List (List Int))) => ((((((T.ret ((part_).length : Int)).bind fun v4 => rngT 0 v4).bind fun v5 => T.ret (v5, (((part_).length : Int), ()))).bind fun v8 => T.ret (pot, v8)).bind fun p9 => (n__law_some (eI) p9.1 p9.2.1 p9.2.2.1)).bind fun l10 => T.ret (l10.map (fun (at_ : Int) => at_)))) ([one, other] : List (List (List Int)))).bind fun rows_11 => (((((ixT rows_11 (0 : Int)).bind fun v13 => ((ixT rows_11 (1 : Int)).bind fun l12 => T.ret (l12.map (fun (at_ : Int) => (((one).length : Int) + at_)))).bind fun v14 => (catT v13 v14)).bind fun v15 => T.ret (v15, ())).bind fun p17 => T.ret p17.1).bind fun order_18 => (((((ixT rows_11 (0 : Int)).bind fun v19 => T.ret (v19, (([(0 : Int), (0 : Int)] : List Int), ()))).bind fun v22 => T.ret (one, v22)).bind fun p23 => (n__law_ends p23.1 p23.2.1 p23.2.2.1)).bind fun first_24 => ((((((ixT rows_11 (1 : Int)).bind fun v27 => ((ixT first_24 (-(1 : Int))).bind fun v25 => T.ret (v25, ())).bind fun v28 => T.ret (v27, v28)).bind fun v30 => T.ret (other, v30)).bind fun p31 => (n__law_ends p31.1 p31.2.1 p31.2.2.1)).bind fun v32 => (catT first_24 v32)).bind fun due_33 => ((((n_ends v3.1 order_18).bind fun v34 => if repOk ((eT (eT eI)) v34) = true then (T.ret due_33).bind fun v35 => repT not ((eT (eT eI)) v34) ((eT (eT eI)) v35) else T.fail).bind fun v46 => if v46 then T.ret true else (((((((ixT rows_11 (0 : Int)).bind fun v36 => T.ret (v36, ())).bind fun p38 => T.ret p38.1).bind fun v39 => T.ret (v39, ())).bind fun v42 => T.ret (one, v42)).bind fun p43 => (n_ends p43.1 p43.2.1)).bind fun v44 => if repOk ((eT (eT eI)) v44) = true then (T.ret first_24).bind fun v45 => repT not ((eT (eT eI)) v44) ((eT (eT eI)) v45) else T.fail)).bind fun v47 => if v47 then (T.ret false) else (((n_waits v3.1 order_18).bind fun v55 => if repOk (eI v55) = true then (((ixT due_33 (-(1 : Int))).bind fun v48 => (ixT v48 (1 : Int))).bind fun v53 => ((((mapT p2T v3.1).bind fun l49 => T.ret (l49.map (fun (wash_wring : (Int × Int)) => wash_wring.2))).bind fun v50 => T.ret (v50, ())).bind fun p52 => T.ret (p52.1).sum).bind fun v54 => T.ret (v53 - v54)).bind fun v56 => repT not (eI v55) (eI v56) else T.fail).bind fun v57 => if v57 then (T.ret false) else (((n_soonest v3.1).bind fun v60 => ((n__law_best v3.1).bind fun v58 => T.ret (v58, ())).bind fun v61 => T.ret (v60, v61)).bind fun v62 => ((((T.ret v62.1.1).bind fun v63 => if repOk (eI v63) = true then (T.ret v62.2.1).bind fun v64 => repT not (eI v63) (eI v64) else T.fail).bind fun v66 => if v66 then T.ret true else ((n_shows_soonest v3.1 v62.1).bind fun v65 => T.ret (!(v65 == true)))).bind fun v67 => if v67 then (T.ret false) else ((mapT (fun (part_ : (List (List Int))) => ((n_soonest part_).bind fun v68 => T.ret v68.1)) ([one, other] : List (List (List Int)))).bind fun alone_69 => ((forC (n__law_are_shifts_right_1 v3.1 v62.2.1 alone_69) () ([((0 : Int), one, other), ((1 : Int), other, one)] : List (Int × (List (List Int)) × (List (List Int))))).bind (Ctl.t fun v129 => ((((ixT alone_69 (0 : Int)).bind fun v130 => (ixT alone_69 (1 : Int)).bind fun v131 => T.ret (v130 + v131)).bind fun v132 => T.ret (decide (v132 < v62.2.1))).bind fun v133 => if v133 then (T.ret false) else (((((((((T.ret v3.2.1).bind fun v134 => rngT 0 v134).bind fun v135 => T.ret (v135, (v3.2.1, ()))).bind fun v138 => T.ret (pot, v138)).bind fun p139 => (n__law_some (eI) p139.1 p139.2.1 p139.2.2.1)).bind fun l140 => T.ret (l140.map (fun (at_ : Int) => at_))).bind fun v141 => T.ret (v141, ())).bind fun p143 => T.ret p143.1).bind fun mixed_144 => ((T.ret v62.1.2).bind fun near_145 => (((drawT v3.2.1).bind fun v148 => ((drawT v3.2.1).bind fun v146 => T.ret (v146, ())).bind fun v149 => T.ret (v148, v149)).bind fun v150 => (((((ixT near_145 v150.2.1).bind fun v153 => ((ixT near_145 v150.1).bind fun v151 => T.ret (v151, ())).bind fun v154 => T.ret (v153, v154)).bind fun v155 => T.ret (v155.1, v155.2.1)).bind fun v156 => (T.ret v150.1).bind fun v157 => (stT near_145 v157 v156.1).bind fun v158 => (T.ret v150.2.1).bind fun v159 => (stT v158 v159 v156.2).bind fun v160 => T.ret (v158, v160)).bind fun v161 => ((forC (n__law_are_shifts_right_2 v3.1 v62.2.1) () ([order_18, mixed_144, v161.2] : List (List Int))).bind (Ctl.t fun v195 => (((((mapT p2T v3.1).bind fun l196 => T.ret (l196.map (fun (wash_wring : (Int × Int)) => (wash_wring.2, wash_wring.1)))).bind fun v197 => T.ret (v197, ())).bind fun p199 => T.ret p199.1).bind fun back_200 => ((((n_soonest ((List.map l2P) back_200)).bind fun v201 => T.ret v201.1).bind fun v202 => T.ret (decide (v202 = v62.2.1))).bind fun v208 => if v208 then ((((n_ends ((List.map l2P) back_200) (order_18).reverse).bind fun v203 => (ixT v203 (-(1 : Int)))).bind fun v204 => (ixT v204 (1 : Int))).bind fun v206 => ((ixT due_33 (-(1 : Int))).bind fun v205 => (ixT v205 (1 : Int))).bind fun v207 => T.ret (decide (v206 = v207))) else T.ret false)))))))))))))))))))))
theorem k__law_are_shifts_right : FnN g__law_are_shifts_right (fun p : Unit × (List (List Int)) × (List (List Int)) × Unit => [ePot p.1, (eT (eT eI)) p.2.1, (eT (eT eI)) p.2.2.1]) eB (fun p => n__law_are_shifts_right p.1 p.2.1 p.2.2.1) :=
  fn_st (fun _ => rfl) (fun ⟨pot, one, other, _⟩ => st_cast (st_n [.frz (ePot pot), .frz ((eT (eT eI)) one), .frz ((eT (eT eI)) other), .nown, .nown, .nown, .nown, .nown, .nown, .nown, .nown, .nown, .nown, .nown, .nown, .nown, .nown, .nown, .nown, .nown, .nown, .nown, .nown, .nown] rfl (st_seq (ss_n (ss_par (sh_consL (se_opT op_catT (se_frz (e := (eT (eT eI))) 1 rfl) (se_frz (e := (eT (eT eI))) 2 rfl)) (sh_consP (se_opP op_add (se_callP fn_lenT (sh_consP (se_frz (e := (eT (eT eI))) 1 rfl) sh_nil)) (se_callP fn_lenT (sh_consP (se_frz (e := (eT (eT eI))) 2 rfl) sh_nil))) sh_nil))) (fun v3 => [.frz (ePot pot), .frz ((eT (eT eI)) one), .frz ((eT (eT eI)) other), .frz ((eT (eT eI)) v3.1), .frz (eI v3.2.1), .nown, .nown, .nown, .nown, .nown, .nown, .nown, .nown, .nown, .nown, .nown, .nown, .nown, .nown, .nown, .nown, .nown, .nown, .nown]) (fun _ => rfl)) (fun v3 => (st_seq (ss_n (ss_st (se_n (se_frzL (se_compMP (c := (eT (eT eI))) (e := (eL eI)) (si_seqP wk_T (se_tupP (eo := eT (eT (eT eI))) (fun (c : (List (List Int)) × (List (List Int)) × Unit) => [c.1, c.2.1]) (fun _ => rfl) (sh_consP (se_frz (e := (eT (eT eI))) 1 rfl) (sh_consP (se_frz (e := (eT (eT eI))) 2 rfl) sh_nil)))) rfl LEs.rfl' (fun part_ => (tg_n rfl)) (fun part_ => (se_n (se_frzL (se_compMQ (c := eI) (e := eI) (si_seq wk_L (se_def (k__law_some (eI)) (sh_consE (se_frz (e := ePot) 0 rfl) (sh_consL (se_rg1 mk_L (se_callP fn_lenT (sh_consP (se_frz (e := (eT (eT eI))) 12 rfl) sh_nil))) (sh_consP (se_callP fn_lenT (sh_consP (se_frz (e := (eT (eT eI))) 12 rfl) sh_nil)) sh_nil))))) rfl LEs.rfl' (fun at_ => (tg_n rfl)) (fun at_ => (se_callP fn_int (sh_consP (se_frz (e := eI) 17 rfl) sh_nil))) (fun _ => LEs.rfl') (fun _ => LEs.rfl'))) [.frz (ePot pot), .frz ((eT (eT eI)) one), .frz ((eT (eT eI)) other), .frz ((eT (eT eI)) v3.1), .frz (eI v3.2.1), .nown, .nown, .nown, .nown, .nown, .nown, .nown, .frz ((eT (eT eI)) part_), .nown, .nown, .nown, .nown, .nown, .nown, .nown, .nown, .nown, .nown, .nown] rfl)) (fun _ => LEs.rfl') (fun _ => LEs.rfl'))) [.frz (ePot pot), .frz ((eT (eT eI)) one), .frz ((eT (eT eI)) other), .frz ((eT (eT eI)) v3.1), .frz (eI v3.2.1), .nown, .nown, .nown, .nown, .nown, .nown, .nown, .nown, .nown, .nown, .nown, .nown, .nown, .nown, .nown, .nown, .nown, .nown, .nown] rfl) rfl) (fun rows_11 => [.frz (ePot pot), .frz ((eT (eT eI)) one), .frz ((eT (eT eI)) other), .frz ((eT (eT eI)) v3.1), .frz (eI v3.2.1), .own ((eL (eL eI)) rows_11), .nown, .nown, .nown, .nown, .nown, .nown, .nown, .nown, .nown, .nown, .nown, .nown, .nown, .nown, .nown, .nown, .nown, .nown]) (fun _ => rfl)) (fun rows_11 => (st_seq (ss_n (ss_st (se_call (FnP.r fn_tupleL) (sh_consL (se_op op_catL (se_opT op_ixL (se_own (e := (eL (eL eI))) 5 rfl) (se_c (e := eI) (0 : Int) rfl) (K := ⟨⟨_, rfl, rfl⟩, trivial⟩)) (se_n (se_frzL (se_compMQ (c := eI) (e := eI) (si_seq wk_L (se_opT op_ixL (se_own (e := (eL (eL eI))) 5 rfl) (se_c (e := eI) (1 : Int) rfl) (K := ⟨⟨_, rfl, rfl⟩, trivial⟩))) rfl LEs.rfl' (fun at_ => (tg_n rfl)) (fun at_ => (se_opP op_add (se_callP fn_lenT (sh_consP (se_frz (e := (eT (eT eI))) 1 rfl) sh_nil)) (se_frz (e := eI) 17 rfl))) (fun _ => LEs.rfl') (fun _ => LEs.rfl'))) [.frz (ePot pot), .frz ((eT (eT eI)) one), .frz ((eT (eT eI)) other), .frz ((eT (eT eI)) v3.1), .frz (eI v3.2.1), .own ((eL (eL eI)) rows_11), .nown, .nown, .nown, .nown, .nown, .nown, .nown, .nown, .nown, .nown, .nown, .nown, .nown, .nown, .nown, .nown, .nown, .nown] rfl)) sh_nil)) rfl) (fun order_18 => [.frz (ePot pot), .frz ((eT (eT eI)) one), .frz ((eT (eT eI)) other), .frz ((eT (eT eI)) v3.1), .frz (eI v3.2.1), .own ((eL (eL eI)) rows_11), .frz ((eT eI) order_18), .nown, .nown, .nown, .nown, .nown, .nown, .nown, .nown, .nown, .nown, .nown, .nown, .nown, .nown, .nown, .nown, .nown]) (fun _ => rfl)) (fun order_18 => (st_seq (ss_n (ss_st (se_def (k__law_ends) (sh_consE (se_frz (e := (eT (eT eI))) 1 rfl) (sh_consL (se_opT op_ixL (se_own (e := (eL (eL eI))) 5 rfl) (se_c (e := eI) (0 : Int) rfl) (K := ⟨⟨_, rfl, rfl⟩, trivial⟩)) (sh_consP (se_tupP (eo := eT eI) (fun (c : Int × Int × Unit) => [c.1, c.2.1]) (fun _ => rfl) (sh_consP (se_c (e := eI) (0 : Int) rfl) (sh_consP (se_c (e := eI) (0 : Int) rfl) sh_nil))) sh_nil)))) rfl) (fun first_24 => [.frz (ePot pot), .frz ((eT (eT eI)) one), .frz ((eT (eT eI)) other), .frz ((eT (eT eI)) v3.1), .frz (eI v3.2.1), .own ((eL (eL eI)) rows_11), .frz ((eT eI) order_18), .frz ((eL (eT eI)) first_24), .nown, .nown, .nown, .nown, .nown, .nown, .nown, .nown, .nown, .nown, .nown, .nown, .nown, .nown, .nown, .nown]) (fun _ => rfl)) (fun first_24 => (st_seq (ss_n (ss_st (se_opE op_catL (se_frz (e := (eL (eT eI))) 7 rfl) (se_def (k__law_ends) (sh_consE (se_frz (e := (eT (eT eI))) 2 rfl) (sh_cons (se_opT op_ixL (se_own (e := (eL (eL eI))) 5 rfl) (se_c (e := eI) (1 : Int) rfl) (K := ⟨⟨_, rfl, rfl⟩, trivial⟩)) (sh_consL (se_opT op_ixL (se_frz (e := (eL (eT eI))) 7 rfl) (se_unP un_neg (se_c (e := eI) (1 : Int) rfl))) sh_nil))))) rfl) (fun due_33 => [.frz (ePot pot), .frz ((eT (eT eI)) one), .frz ((eT (eT eI)) other), .frz ((eT (eT eI)) v3.1), .frz (eI v3.2.1), .own ((eL (eL eI)) rows_11), .frz ((eT eI) order_18), .frz ((eL (eT eI)) first_24), .own ((eL (eT eI)) due_33), .nown, .nown, .nown, .nown, .nown, .nown, .nown, .nown, .nown, .nown, .nown, .nown, .nown, .nown, .nown]) (fun _ => rfl)) (fun due_33 => (st_ifret (sx_or (sx_val (se_rep (e1 := (eT (eT eI))) (e2 := (eT (eT eI))) (se_defLP (k_ends) (lf_T (lf_T lf_I)) (sh_consP (se_frz (e := (eT (eT eI))) 3 rfl) (sh_consP (se_frz (e := (eT eI)) 6 rfl) sh_nil))) (se_callP fn_tupleL (sh_consP (se_own (e := (eL (eT eI))) 8 rfl) sh_nil (K := ⟨⟨_, rfl, rfl⟩, trivial⟩))))) (sx_val (se_rep (e1 := (eT (eT eI))) (e2 := (eT (eT eI))) (se_defL (k_ends) (lf_T (lf_T lf_I)) (sh_consE (se_frz (e := (eT (eT eI))) 1 rfl) (sh_consL (se_call (FnP.r fn_tupleL) (sh_consL (se_opT op_ixL (se_own (e := (eL (eL eI))) 5 rfl) (se_c (e := eI) (0 : Int) rfl) (K := ⟨⟨_, rfl, rfl⟩, trivial⟩)) sh_nil)) sh_nil))) (se_callP fn_tupleL (sh_consP (se_frz (e := (eL (eT eI))) 7 rfl) sh_nil)))) LEs.rfl' LEs.rfl') (st_ret (se_c (e := eB) false rfl)) (st_ifret (sx_val (se_rep (e1 := eI) (e2 := eI) (se_defLP (k_waits) lf_I (sh_consP (se_frz (e := (eT (eT eI))) 3 rfl) (sh_consP (se_frz (e := (eT eI)) 6 rfl) sh_nil))) (se_op (OpP.r op_sub) (se_opL op_ixT (se_opT op_ixL (se_own (e := (eL (eT eI))) 8 rfl) (se_unP un_neg (se_c (e := eI) (1 : Int) rfl)) (K := ⟨⟨_, rfl, rfl⟩, trivial⟩)) (se_c (e := eI) (1 : Int) rfl)) (se_call (FnP.r fn_sumL) (sh_consL (se_n (se_compMQ (c := (eP2 eI eI)) (e := eI) (si_cvT cv_p2 (si_seqP wk_T (se_frz (e := (eT (eT eI))) 3 rfl))) rfl LEs.rfl' (fun wash_wring => (tg_tup (tgs_cons (tg_n rfl) (tgs_cons (tg_n rfl) tgs_nil)))) (fun wash_wring => (se_frz (e := eI) 23 rfl)) (fun _ => LEs.rfl') (fun _ => LEs.rfl')) [.frz (ePot pot), .frz ((eT (eT eI)) one), .frz ((eT (eT eI)) other), .frz ((eT (eT eI)) v3.1), .frz (eI v3.2.1), .own ((eL (eL eI)) rows_11), .frz ((eT eI) order_18), .frz ((eL (eT eI)) first_24), .own ((eL (eT eI)) due_33), .nown, .nown, .nown, .nown, .nown, .nown, .nown, .nown, .nown, .nown, .nown, .nown, .nown, .nown, .nown] rfl) sh_nil))))) (st_ret (se_c (e := eB) false rfl)) (st_seq (ss_n (ss_par (sh_cons (se_defLP (k_soonest) (lf_P2 lf_I (lf_T lf_I)) (sh_consP (se_frz (e := (eT (eT eI))) 3 rfl) sh_nil)) (sh_consL (se_defLP (k__law_best) lf_I (sh_consP (se_frz (e := (eT (eT eI))) 3 rfl) sh_nil)) sh_nil))) (fun v62 => [.frz (ePot pot), .frz ((eT (eT eI)) one), .frz ((eT (eT eI)) other), .frz ((eT (eT eI)) v3.1), .frz (eI v3.2.1), .own ((eL (eL eI)) rows_11), .frz ((eT eI) order_18), .frz ((eL (eT eI)) first_24), .own ((eL (eT eI)) due_33), .frz ((eP2 eI (eT eI)) v62.1), .frz (eI v62.2.1), .nown, .nown, .nown, .nown, .nown, .nown, .nown, .nown, .nown, .nown, .nown, .nown, .nown]) (fun _ => rfl)) (fun v62 => (st_ifret (sx_or (sx_val (se_rep (e1 := eI) (e2 := eI) (se_opP op_p20 (se_frz (e := (eP2 eI (eT eI))) 9 rfl) (se_c (e := fun _ : Unit => D.int 0) () rfl)) (se_frz (e := eI) 10 rfl))) (sx_val (se_opL (OpP.r op_isnB) (se_defLP (k_shows_soonest) lf_B (sh_consP (se_frz (e := (eT (eT eI))) 3 rfl) (sh_consP (se_frz (e := (eP2 eI (eT eI))) 9 rfl) sh_nil))) (se_c (e := eB) true rfl))) LEs.rfl' LEs.rfl') (st_ret (se_c (e := eB) false rfl)) (st_seq (ss_n (ss_st (se_n (se_frzL (se_compMP (c := (eT (eT eI))) (e := eI) (si_seqP wk_T (se_tupP (eo := eT (eT (eT eI))) (fun (c : (List (List Int)) × (List (List Int)) × Unit) => [c.1, c.2.1]) (fun _ => rfl) (sh_consP (se_frz (e := (eT (eT eI))) 1 rfl) (sh_consP (se_frz (e := (eT (eT eI))) 2 rfl) sh_nil)))) rfl LEs.rfl' (fun part_ => (tg_n rfl)) (fun part_ => (se_opL (OpP.r op_p20) (se_defLP (k_soonest) (lf_P2 lf_I (lf_T lf_I)) (sh_consP (se_frz (e := (eT (eT eI))) 12 rfl) sh_nil)) (se_c (e := fun _ : Unit => D.int 0) () rfl))) (fun _ => LEs.rfl') (fun _ => LEs.rfl'))) [.frz (ePot pot), .frz ((eT (eT eI)) one), .frz ((eT (eT eI)) other), .frz ((eT (eT eI)) v3.1), .frz (eI v3.2.1), .own ((eL (eL eI)) rows_11), .frz ((eT eI) order_18), .frz ((eL (eT eI)) first_24), .own ((eL (eT eI)) due_33), .frz ((eP2 eI (eT eI)) v62.1), .frz (eI v62.2.1), .nown, .nown, .nown, .nown, .nown, .nown, .nown, .nown, .nown, .nown, .nown, .nown, .nown] rfl) rfl) (fun alone_69 => [.frz (ePot pot), .frz ((eT (eT eI)) one), .frz ((eT (eT eI)) other), .frz ((eT (eT eI)) v3.1), .frz (eI v3.2.1), .own ((eL (eL eI)) rows_11), .frz ((eT eI) order_18), .frz ((eL (eT eI)) first_24), .own ((eL (eT eI)) due_33), .frz ((eP2 eI (eT eI)) v62.1), .frz (eI v62.2.1), .own ((eL eI) alone_69), .nown, .nown, .nown, .nown, .nown, .nown, .nown, .nown, .nown, .nown, .nown, .nown]) (fun _ => rfl)) (fun alone_69 => (st_seqG (sg_forP (c := (eP3 eI (eT (eT eI)) (eT (eT eI)))) (I := fun (s70 : Unit) => [.frz (ePot pot), .frz ((eT (eT eI)) one), .frz ((eT (eT eI)) other), .frz ((eT (eT eI)) v3.1), .frz (eI v3.2.1), .own ((eL (eL eI)) rows_11), .frz ((eT eI) order_18), .frz ((eL (eT eI)) first_24), .own ((eL (eT eI)) due_33), .frz ((eP2 eI (eT eI)) v62.1), .frz (eI v62.2.1), .own ((eL eI) alone_69), .nown, .nown, .nown, .nown, .nown, .nown, .nown, .nown, .nown, .nown, .nown, .nown]) () (si_seqP wk_T (se_tupP (eo := eT (eP3 eI (eT (eT eI)) (eT (eT eI)))) (fun (c : (Int × (List (List Int)) × (List (List Int))) × (Int × (List (List Int)) × (List (List Int))) × Unit) => [c.1, c.2.1]) (fun _ => rfl) (sh_consP (se_tupP (eo := (eP3 eI (eT (eT eI)) (eT (eT eI)))) (fun (c : Int × (List (List Int)) × (List (List Int)) × Unit) => (c.1, c.2.1, c.2.2.1)) (fun _ => rfl) (sh_consP (se_c (e := eI) (0 : Int) rfl) (sh_consP (se_frz (e := (eT (eT eI))) 1 rfl) (sh_consP (se_frz (e := (eT (eT eI))) 2 rfl) sh_nil)))) (sh_consP (se_tupP (eo := (eP3 eI (eT (eT eI)) (eT (eT eI)))) (fun (c : Int × (List (List Int)) × (List (List Int)) × Unit) => (c.1, c.2.1, c.2.2.1)) (fun _ => rfl) (sh_consP (se_c (e := eI) (1 : Int) rfl) (sh_consP (se_frz (e := (eT (eT eI))) 2 rfl) (sh_consP (se_frz (e := (eT (eT eI))) 1 rfl) sh_nil)))) sh_nil)))) LEs.rfl' (fun s70 part__its_rest_ => (tg_tup (tgs_cons (tg_n rfl) (tgs_cons (tg_n rfl) (tgs_cons (tg_n rfl) tgs_nil))))) (fun s70 part__its_rest_ => (sg_ifj (sx_or (sx_val (se_op (OpP.r (op_ne eq_I)) (se_opT op_ixL (se_own (e := (eL eI)) 11 rfl) (se_frz (e := eI) 12 rfl) (K := ⟨⟨_, rfl, rfl⟩, trivial⟩)) (se_defLP (k__law_best) lf_I (sh_consP (se_frz (e := (eT (eT eI))) 13 rfl) sh_nil)))) (sx_val (se_opE (OpP.r op_ltI) (se_frz (e := eI) 10 rfl) (se_opT op_ixL (se_own (e := (eL eI)) 11 rfl) (se_frz (e := eI) 12 rfl) (K := ⟨⟨_, rfl, rfl⟩, trivial⟩)))) LEs.rfl' LEs.rfl') (sj_retP (se_c (e := eB) false rfl)) (sg_ifj (sx_val (se_opE (OpP.r op_ltI) (se_frz (e := eI) 10 rfl) (se_op (OpP.r op_add) (se_call (FnP.r fn_sumL) (sh_consL (se_n (se_compMQ (c := (eP2 eI eI)) (e := eI) (si_cvT cv_p2 (si_seqP wk_T (se_frz (e := (eT (eT eI))) 3 rfl))) rfl LEs.rfl' (fun wash_wring => (tg_tup (tgs_cons (tg_n rfl) (tgs_cons (tg_n rfl) tgs_nil)))) (fun wash_wring => (se_frz (e := eI) 22 rfl)) (fun _ => LEs.rfl') (fun _ => LEs.rfl')) [.frz (ePot pot), .frz ((eT (eT eI)) one), .frz ((eT (eT eI)) other), .frz ((eT (eT eI)) (v3.1)), .frz (eI v3.2.1), .own ((eL (eL eI)) rows_11), .frz ((eT eI) order_18), .frz ((eL (eT eI)) first_24), .own ((eL (eT eI)) due_33), .frz ((eP2 eI (eT eI)) v62.1), .frz (eI (v62.2.1)), .own ((eL eI) (alone_69)), .frz (eI part__its_rest_.1), .frz ((eT (eT eI)) part__its_rest_.2.1), .frz ((eT (eT eI)) part__its_rest_.2.2), .nown, .nown, .nown, .nown, .nown, .nown, .nown, .nown, .nown] rfl) sh_nil)) (se_call (fn_minL or_I) (sh_consL (se_n (se_compMQ (c := (eP2 eI eI)) (e := eI) (si_cvT cv_p2 (si_seqP wk_T (se_frz (e := (eT (eT eI))) 3 rfl))) rfl LEs.rfl' (fun wash_wring => (tg_tup (tgs_cons (tg_n rfl) (tgs_cons (tg_n rfl) tgs_nil)))) (fun wash_wring => (se_frz (e := eI) 23 rfl)) (fun _ => LEs.rfl') (fun _ => LEs.rfl')) [.frz (ePot pot), .frz ((eT (eT eI)) one), .frz ((eT (eT eI)) other), .frz ((eT (eT eI)) (v3.1)), .frz (eI v3.2.1), .own ((eL (eL eI)) rows_11), .frz ((eT eI) order_18), .frz ((eL (eT eI)) first_24), .own ((eL (eT eI)) due_33), .frz ((eP2 eI (eT eI)) v62.1), .frz (eI (v62.2.1)), .own ((eL eI) (alone_69)), .frz (eI part__its_rest_.1), .frz ((eT (eT eI)) part__its_rest_.2.1), .frz ((eT (eT eI)) part__its_rest_.2.2), .nown, .nown, .nown, .nown, .nown, .nown, .nown, .nown, .nown] rfl) sh_nil))))) (sj_retP (se_c (e := eB) false rfl)) (sg_if (sx_val (se_opE (OpP.r op_ltI) (se_frz (e := eI) 10 rfl) (se_op (OpP.r op_add) (se_call (FnP.r fn_sumL) (sh_consL (se_n (se_compMQ (c := (eP2 eI eI)) (e := eI) (si_cvT cv_p2 (si_seqP wk_T (se_frz (e := (eT (eT eI))) 3 rfl))) rfl LEs.rfl' (fun wash_wring => (tg_tup (tgs_cons (tg_n rfl) (tgs_cons (tg_n rfl) tgs_nil)))) (fun wash_wring => (se_frz (e := eI) 23 rfl)) (fun _ => LEs.rfl') (fun _ => LEs.rfl')) [.frz (ePot pot), .frz ((eT (eT eI)) one), .frz ((eT (eT eI)) other), .frz ((eT (eT eI)) (v3.1)), .frz (eI v3.2.1), .own ((eL (eL eI)) rows_11), .frz ((eT eI) order_18), .frz ((eL (eT eI)) first_24), .own ((eL (eT eI)) due_33), .frz ((eP2 eI (eT eI)) v62.1), .frz (eI (v62.2.1)), .own ((eL eI) (alone_69)), .frz (eI part__its_rest_.1), .frz ((eT (eT eI)) part__its_rest_.2.1), .frz ((eT (eT eI)) part__its_rest_.2.2), .nown, .nown, .nown, .nown, .nown, .nown, .nown, .nown, .nown] rfl) sh_nil)) (se_call (fn_minL or_I) (sh_consL (se_n (se_compMQ (c := (eP2 eI eI)) (e := eI) (si_cvT cv_p2 (si_seqP wk_T (se_frz (e := (eT (eT eI))) 3 rfl))) rfl LEs.rfl' (fun wash_wring => (tg_tup (tgs_cons (tg_n rfl) (tgs_cons (tg_n rfl) tgs_nil)))) (fun wash_wring => (se_frz (e := eI) 22 rfl)) (fun _ => LEs.rfl') (fun _ => LEs.rfl')) [.frz (ePot pot), .frz ((eT (eT eI)) one), .frz ((eT (eT eI)) other), .frz ((eT (eT eI)) (v3.1)), .frz (eI v3.2.1), .own ((eL (eL eI)) rows_11), .frz ((eT eI) order_18), .frz ((eL (eT eI)) first_24), .own ((eL (eT eI)) due_33), .frz ((eP2 eI (eT eI)) v62.1), .frz (eI (v62.2.1)), .own ((eL eI) (alone_69)), .frz (eI part__its_rest_.1), .frz ((eT (eT eI)) part__its_rest_.2.1), .frz ((eT (eT eI)) part__its_rest_.2.2), .nown, .nown, .nown, .nown, .nown, .nown, .nown, .nown, .nown] rfl) sh_nil))))) (sg_j (sj_retP (se_c (e := eB) false rfl))) (sg_next () ⟨.rfl, .rfl, .rfl, .rfl, .rfl, .rfl, .rfl, .rfl, .rfl, .rfl, .rfl, .rfl, .fn, .fn, .fn, .rfl, .rfl, .rfl, .rfl, .rfl, .rfl, .rfl, .rfl, .rfl, trivial⟩)))))) (fun v129 => (st_ifret (sx_val (se_opE (OpP.r op_gt) (se_frz (e := eI) 10 rfl) (se_op (OpP.r op_add) (se_opT op_ixL (se_own (e := (eL eI)) 11 rfl) (se_c (e := eI) (0 : Int) rfl) (K := ⟨⟨_, rfl, rfl⟩, trivial⟩)) (se_opT op_ixL (se_own (e := (eL eI)) 11 rfl) (se_c (e := eI) (1 : Int) rfl) (K := ⟨⟨_, rfl, rfl⟩, trivial⟩))))) (st_ret (se_c (e := eB) false rfl)) (st_seq (ss_n (ss_st (se_call (FnP.r fn_tupleL) (sh_consL (se_n (se_frzL (se_compMQ (c := eI) (e := eI) (si_seq wk_L (se_def (k__law_some (eI)) (sh_consE (se_frz (e := ePot) 0 rfl) (sh_consL (se_rg1 mk_L (se_frz (e := eI) 4 rfl)) (sh_consP (se_frz (e := eI) 4 rfl) sh_nil))))) rfl LEs.rfl' (fun at_ => (tg_n rfl)) (fun at_ => (se_callP fn_int (sh_consP (se_frz (e := eI) 17 rfl) sh_nil))) (fun _ => LEs.rfl') (fun _ => LEs.rfl'))) [.frz (ePot pot), .frz ((eT (eT eI)) one), .frz ((eT (eT eI)) other), .frz ((eT (eT eI)) v3.1), .frz (eI v3.2.1), .own ((eL (eL eI)) rows_11), .frz ((eT eI) order_18), .frz ((eL (eT eI)) first_24), .own ((eL (eT eI)) due_33), .frz ((eP2 eI (eT eI)) v62.1), .frz (eI v62.2.1), .own ((eL eI) alone_69), .nown, .nown, .nown, .nown, .nown, .nown, .nown, .nown, .nown, .nown, .nown, .nown] rfl) sh_nil)) rfl) (fun mixed_144 => [.frz (ePot pot), .frz ((eT (eT eI)) one), .frz ((eT (eT eI)) other), .frz ((eT (eT eI)) v3.1), .frz (eI v3.2.1), .own ((eL (eL eI)) rows_11), .frz ((eT eI) order_18), .frz ((eL (eT eI)) first_24), .own ((eL (eT eI)) due_33), .frz ((eP2 eI (eT eI)) v62.1), .frz (eI v62.2.1), .own ((eL eI) alone_69), .nown, .nown, .nown, .frz ((eT eI) mixed_144), .nown, .nown, .nown, .nown, .nown, .nown, .nown, .nown]) (fun _ => rfl)) (fun mixed_144 => (st_seq (ss_n (ss_st (se_callP fn_listT (sh_consP (se_opP op_p21 (se_frz (e := (eP2 eI (eT eI))) 9 rfl) (se_c (e := fun _ : Unit => D.int 1) () rfl)) sh_nil)) rfl) (fun near_145 => [.frz (ePot pot), .frz ((eT (eT eI)) one), .frz ((eT (eT eI)) other), .frz ((eT (eT eI)) v3.1), .frz (eI v3.2.1), .own ((eL (eL eI)) rows_11), .frz ((eT eI) order_18), .frz ((eL (eT eI)) first_24), .own ((eL (eT eI)) due_33), .frz ((eP2 eI (eT eI)) v62.1), .frz (eI v62.2.1), .own ((eL eI) alone_69), .nown, .nown, .nown, .frz ((eT eI) mixed_144), .own ((eL eI) near_145), .nown, .nown, .nown, .nown, .nown, .nown, .nown]) (fun _ => rfl)) (fun near_145 => (st_seq (ss_n (ss_par (sh_cons (se_defLP fn_take lf_I (sh_consP (se_frz (e := ePot) 0 rfl) (sh_consP (se_frz (e := eI) 4 rfl) sh_nil))) (sh_consL (se_defLP fn_take lf_I (sh_consP (se_frz (e := ePot) 0 rfl) (sh_consP (se_frz (e := eI) 4 rfl) sh_nil))) sh_nil))) (fun v150 => [.frz (ePot pot), .frz ((eT (eT eI)) one), .frz ((eT (eT eI)) other), .frz ((eT (eT eI)) v3.1), .frz (eI v3.2.1), .own ((eL (eL eI)) rows_11), .frz ((eT eI) order_18), .frz ((eL (eT eI)) first_24), .own ((eL (eT eI)) due_33), .frz ((eP2 eI (eT eI)) v62.1), .frz (eI v62.2.1), .own ((eL eI) alone_69), .nown, .nown, .nown, .frz ((eT eI) mixed_144), .own ((eL eI) near_145), .frz (eI v150.1), .frz (eI v150.2.1), .nown, .nown, .nown, .nown, .nown]) (fun _ => rfl)) (fun v150 => (st_seq (ss_n (ss_sto2 (se_tup (eo := (eP2 eI eI)) (fun (c : Int × Int × Unit) => (c.1, c.2.1)) (fun _ => rfl) (sh_cons (se_opT op_ixL (se_own (e := (eL eI)) 16 rfl) (se_frz (e := eI) 18 rfl) (K := ⟨⟨_, rfl, rfl⟩, trivial⟩)) (sh_consL (se_opT op_ixL (se_own (e := (eL eI)) 16 rfl) (se_frz (e := eI) 17 rfl) (K := ⟨⟨_, rfl, rfl⟩, trivial⟩)) sh_nil))) rfl (se_frz (e := eI) 17 rfl) rfl (fun _ => rfl) (fun v158 => (se_frz (e := eI) 18 rfl)) (fun _ => rfl)) (fun v161 => [.frz (ePot pot), .frz ((eT (eT eI)) one), .frz ((eT (eT eI)) other), .frz ((eT (eT eI)) v3.1), .frz (eI v3.2.1), .own ((eL (eL eI)) rows_11), .frz ((eT eI) order_18), .frz ((eL (eT eI)) first_24), .own ((eL (eT eI)) due_33), .frz ((eP2 eI (eT eI)) v62.1), .frz (eI v62.2.1), .own ((eL eI) alone_69), .nown, .nown, .nown, .frz ((eT eI) mixed_144), .own ((eL eI) v161.2), .frz (eI v150.1), .frz (eI v150.2.1), .nown, .nown, .nown, .nown, .nown]) (fun _ => rfl)) (fun v161 => (st_seqG (sg_forP (c := (eT eI)) (I := fun (s162 : Unit) => [.frz (ePot pot), .frz ((eT (eT eI)) one), .frz ((eT (eT eI)) other), .frz ((eT (eT eI)) v3.1), .frz (eI v3.2.1), .own ((eL (eL eI)) rows_11), .frz ((eT eI) order_18), .frz ((eL (eT eI)) first_24), .own ((eL (eT eI)) due_33), .frz ((eP2 eI (eT eI)) v62.1), .frz (eI v62.2.1), .own ((eL eI) alone_69), .nown, .nown, .nown, .frz ((eT eI) mixed_144), .own ((eL eI) v161.2), .frz (eI v150.1), .frz (eI v150.2.1), .nown, .nown, .nown, .nown, .nown]) () (si_seqP wk_T (se_tupP (eo := eT (eT eI)) (fun (c : (List Int) × (List Int) × (List Int) × Unit) => [c.1, c.2.1, c.2.2.1]) (fun _ => rfl) (sh_consP (se_frz (e := (eT eI)) 6 rfl) (sh_consP (se_frz (e := (eT eI)) 15 rfl) (sh_consP (se_callP fn_tupleL (sh_consP (se_own (e := (eL eI)) 16 rfl) sh_nil (K := ⟨⟨_, rfl, rfl⟩, trivial⟩))) sh_nil))))) LEs.rfl' (fun s162 some_ => (tg_n rfl)) (fun s162 some_ => (sg_seq (ss_n (ss_st (se_opL op_ixT (se_opL op_ixL (se_defP (k__law_ends__1) (sh_consP (se_frz (e := (eT (eT eI))) 3 rfl) (sh_consP (se_frz (e := (eT eI)) 19 rfl) (sh_consP (se_tupP (eo := eT eI) (fun (c : Int × Int × Unit) => [c.1, c.2.1]) (fun _ => rfl) (sh_consP (se_c (e := eI) (0 : Int) rfl) (sh_consP (se_c (e := eI) (0 : Int) rfl) sh_nil))) sh_nil)))) (se_unP un_neg (se_c (e := eI) (1 : Int) rfl))) (se_c (e := eI) (1 : Int) rfl)) rfl) (fun its_181 => [.frz (ePot pot), .frz ((eT (eT eI)) one), .frz ((eT (eT eI)) other), .frz ((eT (eT eI)) (v3.1)), .frz (eI v3.2.1), .own ((eL (eL eI)) rows_11), .frz ((eT eI) order_18), .frz ((eL (eT eI)) first_24), .own ((eL (eT eI)) due_33), .frz ((eP2 eI (eT eI)) v62.1), .frz (eI (v62.2.1)), .own ((eL eI) alone_69), .nown, .frz (eI its_181), .nown, .frz ((eT eI) mixed_144), .own ((eL eI) v161.2), .frz (eI v150.1), .frz (eI v150.2.1), .frz ((eT eI) some_), .nown, .nown, .nown, .nown]) (fun _ => rfl)) (fun its_181 => (sg_ifjP (sx_val (se_opP op_ltI (se_frz (e := eI) 13 rfl) (se_frz (e := eI) 10 rfl))) (sj_retP (se_c (e := eB) false rfl)) (sg_endG (sg_forP (c := eI) (I := fun (s183 : Unit) => [.frz (ePot pot), .frz ((eT (eT eI)) one), .frz ((eT (eT eI)) other), .frz ((eT (eT eI)) (v3.1)), .frz (eI v3.2.1), .own ((eL (eL eI)) rows_11), .frz ((eT eI) order_18), .frz ((eL (eT eI)) first_24), .own ((eL (eT eI)) due_33), .frz ((eP2 eI (eT eI)) v62.1), .frz (eI (v62.2.1)), .own ((eL eI) alone_69), .nown, .frz (eI its_181), .nown, .frz ((eT eI) mixed_144), .own ((eL eI) v161.2), .frz (eI v150.1), .frz (eI v150.2.1), .frz ((eT eI) some_), .nown, .nown, .nown, .nown]) () (si_seqP wk_T (se_tupP (eo := eT eI) (fun (c : Int × Int × Unit) => [c.1, c.2.1]) (fun _ => rfl) (sh_consP (se_frz (e := eI) 13 rfl) (sh_consP (se_frz (e := eI) 10 rfl) sh_nil)))) LEs.rfl' (fun s183 number => (tg_n rfl)) (fun s183 number => (sg_if (sx_not (sx_val (se_defL (k__law_is_bool) lf_B (sh_consL (se_defLP (k_shows_soonest) lf_B (sh_consP (se_frz (e := (eT (eT eI))) 3 rfl) (sh_consP (se_tupP (eo := (eP2 eI (eT eI))) (fun (c : Int × (List Int) × Unit) => (c.1, c.2.1)) (fun _ => rfl) (sh_consP (se_frz (e := eI) 20 rfl) (sh_consP (se_frz (e := (eT eI)) 19 rfl) sh_nil))) sh_nil))) (sh_consP (se_chainP (op_eq eq_I) (op_eq eq_I) (se_frz (e := eI) 20 rfl) (se_frz (e := eI) 13 rfl) (se_frz (e := eI) 10 rfl) (trivial) (trivial) LEs.rfl') sh_nil))))) (sg_j (sj_retP (se_c (e := eB) false rfl))) (sg_next () ⟨.rfl, .rfl, .rfl, .rfl, .rfl, .rfl, .rfl, .rfl, .rfl, .rfl, .rfl, .rfl, .rfl, .rfl, .rfl, .rfl, .rfl, .rfl, .rfl, .rfl, .fn, .rfl, .rfl, .rfl, trivial⟩)))) (fun v194 => ⟨.rfl, .rfl, .rfl, .rfl, .rfl, .rfl, .rfl, .rfl, .rfl, .rfl, .rfl, .rfl, .rfl, .fn, .rfl, .rfl, .rfl, .rfl, .rfl, .fn, .rfl, .rfl, .rfl, .rfl, trivial⟩))))))) (fun v195 => (st_seq (ss_n (ss_st (se_call (FnP.r fn_tupleL) (sh_consL (se_n (se_compMQ (c := (eP2 eI eI)) (e := (eP2 eI eI)) (si_cvT cv_p2 (si_seqP wk_T (se_frz (e := (eT (eT eI))) 3 rfl))) rfl LEs.rfl' (fun wash_wring => (tg_tup (tgs_cons (tg_n rfl) (tgs_cons (tg_n rfl) tgs_nil)))) (fun wash_wring => (se_tupP (eo := (eP2 eI eI)) (fun (c : Int × Int × Unit) => (c.1, c.2.1)) (fun _ => rfl) (sh_consP (se_frz (e := eI) 23 rfl) (sh_consP (se_frz (e := eI) 22 rfl) sh_nil)))) (fun _ => LEs.rfl') (fun _ => LEs.rfl')) [.frz (ePot pot), .frz ((eT (eT eI)) one), .frz ((eT (eT eI)) other), .frz ((eT (eT eI)) v3.1), .frz (eI v3.2.1), .own ((eL (eL eI)) rows_11), .frz ((eT eI) order_18), .frz ((eL (eT eI)) first_24), .own ((eL (eT eI)) due_33), .frz ((eP2 eI (eT eI)) v62.1), .frz (eI v62.2.1), .own ((eL eI) alone_69), .nown, .nown, .nown, .frz ((eT eI) mixed_144), .own ((eL eI) v161.2), .frz (eI v150.1), .frz (eI v150.2.1), .nown, .nown, .nown, .nown, .nown] rfl) sh_nil)) rfl) (fun back_200 => [.frz (ePot pot), .frz ((eT (eT eI)) one), .frz ((eT (eT eI)) other), .frz ((eT (eT eI)) v3.1), .frz (eI v3.2.1), .own ((eL (eL eI)) rows_11), .frz ((eT eI) order_18), .frz ((eL (eT eI)) first_24), .own ((eL (eT eI)) due_33), .frz ((eP2 eI (eT eI)) v62.1), .frz (eI v62.2.1), .own ((eL eI) alone_69), .nown, .nown, .nown, .frz ((eT eI) mixed_144), .own ((eL eI) v161.2), .frz (eI v150.1), .frz (eI v150.2.1), .nown, .nown, .frz ((eT (eP2 eI eI)) back_200), .nown, .nown]) (fun _ => rfl)) (fun back_200 => (st_ret (se_and (se_opL (OpP.r (op_eq eq_I)) (se_opL (OpP.r op_p20) (se_defLP (k_soonest) (lf_P2 lf_I (lf_T lf_I)) (sh_consP (se_cvP (cv_TP cv_l2) (se_frz (e := (eT (eP2 eI eI))) 21 rfl)) sh_nil)) (se_c (e := fun _ : Unit => D.int 0) () rfl)) (se_frz (e := eI) 10 rfl)) (se_op (OpP.r (op_eq eq_I)) (se_opL op_ixT (se_opL op_ixT (se_defLP (k_ends) (lf_T (lf_T lf_I)) (sh_consP (se_cvP (cv_TP cv_l2) (se_frz (e := (eT (eP2 eI eI))) 21 rfl)) (sh_consP (se_unP un_revT (se_frz (e := (eT eI)) 6 rfl)) sh_nil))) (se_unP un_neg (se_c (e := eI) (1 : Int) rfl))) (se_c (e := eI) (1 : Int) rfl)) (se_opL op_ixT (se_opT op_ixL (se_own (e := (eL (eT eI))) 8 rfl) (se_unP un_neg (se_c (e := eI) (1 : Int) rfl)) (K := ⟨⟨_, rfl, rfl⟩, trivial⟩)) (se_c (e := eI) (1 : Int) rfl))) LEs.rfl' LEs.rfl'))))))))))))))))))))))))))))))))))) (by rfl))
def n__law_are_three_right_2 (many : Int) (s35 : (List (List Int))) (row_ : (List Int)) : T (List (List Int)) :=
  (((((rngT 0 many).bind fun l42 => (filT (fun (at_ : Int) => (T.ret (!decide (at_ ∈ row_)))) (fun (at_ : Int) => (catT row_ ([at_] : List Int))) l42)).bind fun v43 => T.ret (v43, ())).bind fun p45 => extT s35 p45.1).bind fun longer41 => T.ret longer41)
def n__law_are_three_right_1 (many : Int) (s5 : (List (List Int))) (lap : Int) : T (List (List Int)) :=
  ((T.ret ([] : List (List Int))).bind fun longer_34 => ((forT (n__law_are_three_right_2 many) longer_34 s5).bind fun v46 => ((T.ret v46).bind fun rows_47 => T.ret rows_47)))
def n__law_are_three_right (pot : Unit) : T Bool :=
  ((n__law_of (eI) pot ([(1 : Int), (4 : Int), (5 : Int), (6 : Int)] : List Int)).bind fun many_1 => (((n__law_jobs pot many_1 (3 : Int)).bind fun v2 => T.ret (v2, (([([] : List Int)] : List (List Int)), ()))).bind fun v4 => (((rngT 0 many_1).bind fun l => forT (n__law_are_three_right_1 many_1) v4.2.1 l).bind fun v48 => ((((mapT (fun (row_ : (List Int)) => (((((n__law_ends__1 v4.1 row_ ([(0 : Int), (0 : Int), (0 : Int)] : List Int)).bind fun v49 => (ixT v49 (-(1 : Int)))).bind fun v50 => (ixT v50 (2 : Int))).bind fun v51 => T.ret (v51, (row_, ()))).bind fun v53 => T.ret (v53.1, v53.2.1))) v48).bind fun v54 => T.ret (v54, ())).bind fun p56 => (minT (lt2 ltI (ltLs ltI)) p56.1)).bind fun due_57 => (((n_soonest_three v4.1).bind fun v58 => if repOk ((eP2 eI (eT eI)) v58) = true then (T.ret due_57).bind fun v59 => repT not ((eP2 eI (eT eI)) v58) ((eP2 eI (eT eI)) v59) else T.fail).bind fun v60 => if v60 then (T.ret false) else ((n_middle_rule v4.1).bind fun told_61 => (((mapT p3T v4.1).bind fun l62 => T.ret (l62.map (fun (wash_wring_iron : (Int × Int × Int)) => ((wash_wring_iron.1 + wash_wring_iron.2.1), (wash_wring_iron.2.1 + wash_wring_iron.2.2))))).bind fun sums_63 => ((T.ret (srtBy (lt2 ltI ltI) (((enmL sums_63).filter (fun (at__one_other : (Int × (Int × Int))) => (decide (at__one_other.2.1 ≤ at__one_other.2.2)))).map (fun (at__one_other : (Int × (Int × Int))) => (at__one_other.2.1, at__one_other.1))))).bind fun first_64 => ((T.ret (srtBy (lt2 ltI ltI) (((enmL sums_63).filter (fun (at__one_other : (Int × (Int × Int))) => (decide (at__one_other.2.2 < at__one_other.2.1)))).map (fun (at__one_other : (Int × (Int × Int))) => ((-at__one_other.2.2), at__one_other.1))))).bind fun last_65 => (((((catT first_64 last_65).bind fun l66 => T.ret (l66.map (fun (time_at_ : (Int × Int)) => time_at_.2))).bind fun v67 => T.ret (v67, ())).bind fun p69 => T.ret p69.1).bind fun order_70 => ((((mapT (fun (job : (List Int)) => (ixT job (1 : Int))) v4.1).bind fun v71 => T.ret (v71, ())).bind fun p73 => (maxT p73.1)).bind fun middle_74 => ((((((mapT (fun (job : (List Int)) => (ixT job (0 : Int))) v4.1).bind fun v75 => T.ret (v75, ())).bind fun p77 => (minT ltI p77.1)).bind fun v78 => T.ret (decide (middle_74 ≤ v78))).bind fun v83 => if v83 then T.ret true else ((((mapT (fun (job : (List Int)) => (ixT job (2 : Int))) v4.1).bind fun v79 => T.ret (v79, ())).bind fun p81 => (minT ltI p81.1)).bind fun v82 => T.ret (decide (middle_74 ≤ v82)))).bind fun is_sure_84 => (((T.ret told_61).bind fun v90 => if repOk ((eP3 eI (eT eI) eB) v90) = true then (((((n__law_ends__1 v4.1 order_70 ([(0 : Int), (0 : Int), (0 : Int)] : List Int)).bind fun v85 => (ixT v85 (-(1 : Int)))).bind fun v86 => (ixT v86 (2 : Int))).bind fun v87 => T.ret (v87, (order_70, (is_sure_84, ())))).bind fun v89 => T.ret (v89.1, v89.2.1, v89.2.2.1)).bind fun v91 => repT not ((eP3 eI (eT eI) eB) v90) ((eP3 eI (eT eI) eB) v91) else T.fail).bind fun v92 => if v92 then (T.ret false) else (T.ret ((decide (due_57.1 ≤ told_61.1)) && ((!is_sure_84) || (decide (told_61.1 = due_57.1))))))))))))))))))
theorem k__law_are_three_right : FnN g__law_are_three_right (fun p : Unit × Unit => [ePot p.1]) eB (fun p => n__law_are_three_right p.1) :=
  fn_st (fun _ => rfl) (fun ⟨pot, _⟩ => st_cast (st_n [.frz (ePot pot), .nown, .nown, .nown, .nown, .nown, .nown, .nown, .nown, .nown, .nown, .nown, .nown, .nown, .nown, .nown, .nown, .nown, .nown, .nown, .nown, .nown, .nown] rfl (st_seq (ss_n (ss_st (se_defLP (k__law_of (eI)) lf_I (sh_consP (se_frz (e := ePot) 0 rfl) (sh_consP (se_lstP (eo := eL eI) (fun (c : Int × Int × Int × Int × Unit) => [c.1, c.2.1, c.2.2.1, c.2.2.2.1]) (fun _ => rfl) (sh_consP (se_c (e := eI) (1 : Int) rfl) (sh_consP (se_c (e := eI) (4 : Int) rfl) (sh_consP (se_c (e := eI) (5 : Int) rfl) (sh_consP (se_c (e := eI) (6 : Int) rfl) sh_nil))))) sh_nil))) rfl) (fun many_1 => [.frz (ePot pot), .frz (eI many_1), .nown, .nown, .nown, .nown, .nown, .nown, .nown, .nown, .nown, .nown, .nown, .nown, .nown, .nown, .nown, .nown, .nown, .nown, .nown, .nown, .nown]) (fun _ => rfl)) (fun many_1 => (st_seq (ss_n (ss_par (sh_consL (se_defLP (k__law_jobs) (lf_T (lf_T lf_I)) (sh_consP (se_frz (e := ePot) 0 rfl) (sh_consP (se_frz (e := eI) 1 rfl) (sh_consP (se_c (e := eI) (3 : Int) rfl) sh_nil)))) (sh_consP (se_lstP (eo := eL (eT eI)) (fun (c : (List Int) × Unit) => [c.1]) (fun _ => rfl) (sh_consP (se_tupP (eo := eT eI) (fun (c : Unit) => []) (fun _ => rfl) sh_nil) sh_nil)) sh_nil))) (fun v4 => [.frz (ePot pot), .frz (eI many_1), .frz ((eT (eT eI)) v4.1), .own ((eL (eT eI)) v4.2.1), .nown, .nown, .nown, .nown, .nown, .nown, .nown, .nown, .nown, .nown, .nown, .nown, .nown, .nown, .nown, .nown, .nown, .nown, .nown]) (fun _ => rfl)) (fun v4 => (st_seq (ss_for (c := eI) (I := fun (s5 : (List (List Int))) => [.frz (ePot pot), .frz (eI many_1), .frz ((eT (eT eI)) v4.1), .any ((eL (eT eI)) s5), .nown, .unk, .nown, .nown, .nown, .nown, .nown, .nown, .nown, .nown, .nown, .nown, .nown, .nown, .nown, .nown, .nown, .nown, .nown]) v4.2.1 (si_rng1P (sh_consP (se_frz (e := eI) 1 rfl) sh_nil)) ⟨.rfl, .rfl, .rfl, .oa, .rfl, .unk, .rfl, .rfl, .rfl, .rfl, .rfl, .rfl, .rfl, .rfl, .rfl, .rfl, .rfl, .rfl, .rfl, .rfl, .rfl, .rfl, .rfl, trivial⟩ (fun s5 lap => (tg_n rfl)) (fun s5 lap => (ss_seq (ss_n (ss_st (se_lstP (eo := eL (eT eI)) (fun (c : Unit) => []) (fun _ => rfl) sh_nil) rfl) (fun longer_34 => [.frz (ePot pot), .frz (eI (many_1)), .frz ((eT (eT eI)) v4.1), .any ((eL (eT eI)) s5), .frz (eI lap), .own ((eL (eT eI)) longer_34), .nown, .nown, .nown, .nown, .nown, .nown, .nown, .nown, .nown, .nown, .nown, .nown, .nown, .nown, .nown, .nown, .nown]) (fun _ => rfl)) (fun longer_34 => (ss_seq (ss_forP (c := (eT eI)) (I := fun (s35 : (List (List Int))) => [.frz (ePot pot), .frz (eI (many_1)), .frz ((eT (eT eI)) v4.1), .any ((eL (eT eI)) s5), .frz (eI lap), .own ((eL (eT eI)) s35), .nown, .nown, .nown, .nown, .nown, .nown, .nown, .nown, .nown, .nown, .nown, .nown, .nown, .nown, .nown, .nown, .nown]) longer_34 (si_seqP wk_L (se_any (e := (eL (eT eI))) 3 rfl)) LEs.rfl' (fun s35 row_ => (tg_n rfl)) (fun s35 row_ => (ss_done (ss_n (ss_ext rfl (sh_consL (se_n (se_comp (c := eI) (e := (eT eI)) (si_rng1P (sh_consP (se_frz (e := eI) 1 rfl) sh_nil)) rfl LEs.rfl' (fun at_ => (tg_n rfl)) (fun at_ => (sx_val (se_opP (op_niT eq_I) (se_frz (e := eI) 15 rfl) (se_frz (e := (eT eI)) 6 rfl)))) (fun at_ => (se_opT op_catT (se_frz (e := (eT eI)) 6 rfl) (se_tupP (eo := eT eI) (fun (c : Int × Unit) => [c.1]) (fun _ => rfl) (sh_consP (se_frz (e := eI) 15 rfl) sh_nil)))) (fun _ => LEs.rfl') (fun _ => LEs.rfl')) [.frz (ePot pot), .frz (eI (many_1)), .frz ((eT (eT eI)) v4.1), .any ((eL (eT eI)) s5), .frz (eI lap), .own ((eL (eT eI)) s35), .frz ((eT eI) row_), .nown, .nown, .nown, .nown, .nown, .nown, .nown, .nown, .nown, .nown, .nown, .nown, .nown, .nown, .nown, .nown] rfl) sh_nil) rfl) (fun longer41 => [.frz (ePot pot), .frz (eI (many_1)), .frz ((eT (eT eI)) v4.1), .any ((eL (eT eI)) s5), .frz (eI lap), .own ((eL (eT eI)) longer41), .frz ((eT eI) row_), .nown, .nown, .nown, .nown, .nown, .nown, .nown, .nown, .nown, .nown, .nown, .nown, .nown, .nown, .nown, .nown]) (fun _ => rfl)) (fun longer41 => ⟨.rfl, .rfl, .rfl, .rfl, .rfl, .rfl, .fn, .rfl, .rfl, .rfl, .rfl, .rfl, .rfl, .rfl, .rfl, .rfl, .rfl, .rfl, .rfl, .rfl, .rfl, .rfl, .rfl, trivial⟩)))) (fun v46 => (ss_done (ss_n (ss_st (se_own (e := (eL (eT eI))) 5 rfl) rfl) (fun rows_47 => [.frz (ePot pot), .frz (eI (many_1)), .frz ((eT (eT eI)) v4.1), .any ((eL (eT eI)) rows_47), .frz (eI lap), .any ((eL (eT eI)) v46), .nown, .nown, .nown, .nown, .nown, .nown, .nown, .nown, .nown, .nown, .nown, .nown, .nown, .nown, .nown, .nown, .nown]) (fun _ => rfl)) (fun rows_47 => ⟨.rfl, .rfl, .rfl, .rfl, .fn, .unk, .rfl, .rfl, .rfl, .rfl, .rfl, .rfl, .rfl, .rfl, .rfl, .rfl, .rfl, .rfl, .rfl, .rfl, .rfl, .rfl, .rfl, trivial⟩)))))))) (fun v48 => (st_seq (ss_n (ss_st (se_call (fn_minL (or_P2 (k := 2) (OrdE.le or_I (by decide)) (OrdE.le (or_T or_I) (by decide)))) (sh_consL (se_n (se_frzL (se_compMP (c := (eT eI)) (e := (eP2 eI (eT eI))) (si_seqP wk_L (se_any (e := (eL (eT eI))) 3 rfl)) rfl LEs.rfl' (fun row_ => (tg_n rfl)) (fun row_ => (se_tup (eo := (eP2 eI (eT eI))) (fun (c : Int × (List Int) × Unit) => (c.1, c.2.1)) (fun _ => rfl) (sh_consL (se_opL op_ixT (se_opL op_ixL (se_defP (k__law_ends__1) (sh_consP (se_frz (e := (eT (eT eI))) 2 rfl) (sh_consP (se_frz (e := (eT eI)) 6 rfl) (sh_consP (se_tupP (eo := eT eI) (fun (c : Int × Int × Int × Unit) => [c.1, c.2.1, c.2.2.1]) (fun _ => rfl) (sh_consP (se_c (e := eI) (0 : Int) rfl) (sh_consP (se_c (e := eI) (0 : Int) rfl) (sh_consP (se_c (e := eI) (0 : Int) rfl) sh_nil)))) sh_nil)))) (se_unP un_neg (se_c (e := eI) (1 : Int) rfl))) (se_c (e := eI) (2 : Int) rfl)) (sh_consP (se_frz (e := (eT eI)) 6 rfl) sh_nil)))) (fun _ => LEs.rfl') (fun _ => LEs.rfl'))) [.frz (ePot pot), .frz (eI many_1), .frz ((eT (eT eI)) v4.1), .any ((eL (eT eI)) v48), .nown, .unk, .nown, .nown, .nown, .nown, .nown, .nown, .nown, .nown, .nown, .nown, .nown, .nown, .nown, .nown, .nown, .nown, .nown] rfl) sh_nil)) rfl) (fun due_57 => [.frz (ePot pot), .frz (eI many_1), .frz ((eT (eT eI)) v4.1), .any ((eL (eT eI)) v48), .nown, .unk, .nown, .frz ((eP2 eI (eT eI)) due_57), .nown, .nown, .nown, .nown, .nown, .nown, .nown, .nown, .nown, .nown, .nown, .nown, .nown, .nown, .nown]) (fun _ => rfl)) (fun due_57 => (st_ifret (sx_val (se_rep (e1 := (eP2 eI (eT eI))) (e2 := (eP2 eI (eT eI))) (se_defLP (k_soonest_three) (lf_P2 lf_I (lf_T lf_I)) (sh_consP (se_frz (e := (eT (eT eI))) 2 rfl) sh_nil)) (se_frz (e := (eP2 eI (eT eI))) 7 rfl))) (st_ret (se_c (e := eB) false rfl)) (st_seq (ss_n (ss_st (se_defLP (k_middle_rule) (lf_P3 lf_I (lf_T lf_I) lf_B) (sh_consP (se_frz (e := (eT (eT eI))) 2 rfl) sh_nil)) rfl) (fun told_61 => [.frz (ePot pot), .frz (eI many_1), .frz ((eT (eT eI)) v4.1), .any ((eL (eT eI)) v48), .nown, .unk, .nown, .frz ((eP2 eI (eT eI)) due_57), .frz ((eP3 eI (eT eI) eB) told_61), .nown, .nown, .nown, .nown, .nown, .nown, .nown, .nown, .nown, .nown, .nown, .nown, .nown, .nown]) (fun _ => rfl)) (fun told_61 => (st_seq (ss_n (ss_st (se_frzL (is := []) (se_n (se_compMQ (c := (eP3 eI eI eI)) (e := (eP2 eI eI)) (si_cvT cv_p3 (si_seqP wk_T (se_frz (e := (eT (eT eI))) 2 rfl))) rfl LEs.rfl' (fun wash_wring_iron => (tg_tup (tgs_cons (tg_n rfl) (tgs_cons (tg_n rfl) (tgs_cons (tg_n rfl) tgs_nil))))) (fun wash_wring_iron => (se_tupP (eo := (eP2 eI eI)) (fun (c : Int × Int × Unit) => (c.1, c.2.1)) (fun _ => rfl) (sh_consP (se_opP op_add (se_frz (e := eI) 16 rfl) (se_frz (e := eI) 17 rfl)) (sh_consP (se_opP op_add (se_frz (e := eI) 17 rfl) (se_frz (e := eI) 18 rfl)) sh_nil)))) (fun _ => LEs.rfl') (fun _ => LEs.rfl')) [.frz (ePot pot), .frz (eI many_1), .frz ((eT (eT eI)) v4.1), .any ((eL (eT eI)) v48), .nown, .unk, .nown, .frz ((eP2 eI (eT eI)) due_57), .frz ((eP3 eI (eT eI) eB) told_61), .nown, .nown, .nown, .nown, .nown, .nown, .nown, .nown, .nown, .nown, .nown, .nown, .nown, .nown] rfl)) rfl) (fun sums_63 => [.frz (ePot pot), .frz (eI many_1), .frz ((eT (eT eI)) v4.1), .any ((eL (eT eI)) v48), .nown, .unk, .nown, .frz ((eP2 eI (eT eI)) due_57), .frz ((eP3 eI (eT eI) eB) told_61), .own ((eL (eP2 eI eI)) sums_63), .nown, .nown, .nown, .nown, .nown, .nown, .nown, .nown, .nown, .nown, .nown, .nown, .nown]) (fun _ => rfl)) (fun sums_63 => (st_seq (ss_n (ss_st (se_callP (fn_sortL (or_P2 (k := 1) (OrdE.le or_I (by decide)) (OrdE.le or_I (by decide)))) (sh_consP (se_n (se_compPP (c := (eP2 eI (eP2 eI eI))) (e := (eP2 eI eI)) (si_enumP wk_L (sh_consP (se_own (e := (eL (eP2 eI eI))) 9 rfl) sh_nil (K := ⟨⟨_, rfl, rfl⟩, trivial⟩))) rfl LEs.rfl' (fun at__one_other => (tg_tup (tgs_cons (tg_n rfl) (tgs_cons (tg_tup (tgs_cons (tg_n rfl) (tgs_cons (tg_n rfl) tgs_nil))) tgs_nil)))) (fun at__one_other => (sx_val (se_opP op_le (se_frz (e := eI) 19 rfl) (se_frz (e := eI) 20 rfl)))) (fun at__one_other => (se_tupP (eo := (eP2 eI eI)) (fun (c : Int × Int × Unit) => (c.1, c.2.1)) (fun _ => rfl) (sh_consP (se_frz (e := eI) 19 rfl) (sh_consP (se_frz (e := eI) 15 rfl) sh_nil)))) (fun _ => LEs.rfl') (fun _ => LEs.rfl')) [.frz (ePot pot), .frz (eI many_1), .frz ((eT (eT eI)) v4.1), .any ((eL (eT eI)) v48), .nown, .unk, .nown, .frz ((eP2 eI (eT eI)) due_57), .frz ((eP3 eI (eT eI) eB) told_61), .any ((eL (eP2 eI eI)) sums_63), .nown, .nown, .nown, .nown, .nown, .nown, .nown, .nown, .nown, .nown, .nown, .nown, .nown] rfl) sh_nil)) rfl) (fun first_64 => [.frz (ePot pot), .frz (eI many_1), .frz ((eT (eT eI)) v4.1), .any ((eL (eT eI)) v48), .nown, .unk, .nown, .frz ((eP2 eI (eT eI)) due_57), .frz ((eP3 eI (eT eI) eB) told_61), .any ((eL (eP2 eI eI)) sums_63), .own ((eL (eP2 eI eI)) first_64), .nown, .nown, .nown, .nown, .nown, .nown, .nown, .nown, .nown, .nown, .nown, .nown]) (fun _ => rfl)) (fun first_64 => (st_seq (ss_n (ss_st (se_callP (fn_sortL (or_P2 (k := 1) (OrdE.le or_I (by decide)) (OrdE.le or_I (by decide)))) (sh_consP (se_n (se_compPP (c := (eP2 eI (eP2 eI eI))) (e := (eP2 eI eI)) (si_enumP wk_L (sh_consP (se_any (e := (eL (eP2 eI eI))) 9 rfl) sh_nil (K := ⟨⟨_, rfl, rfl⟩, trivial⟩))) rfl LEs.rfl' (fun at__one_other => (tg_tup (tgs_cons (tg_n rfl) (tgs_cons (tg_tup (tgs_cons (tg_n rfl) (tgs_cons (tg_n rfl) tgs_nil))) tgs_nil)))) (fun at__one_other => (sx_val (se_opP op_gt (se_frz (e := eI) 19 rfl) (se_frz (e := eI) 20 rfl)))) (fun at__one_other => (se_tupP (eo := (eP2 eI eI)) (fun (c : Int × Int × Unit) => (c.1, c.2.1)) (fun _ => rfl) (sh_consP (se_unP un_neg (se_frz (e := eI) 20 rfl)) (sh_consP (se_frz (e := eI) 15 rfl) sh_nil)))) (fun _ => LEs.rfl') (fun _ => LEs.rfl')) [.frz (ePot pot), .frz (eI many_1), .frz ((eT (eT eI)) v4.1), .any ((eL (eT eI)) v48), .nown, .unk, .nown, .frz ((eP2 eI (eT eI)) due_57), .frz ((eP3 eI (eT eI) eB) told_61), .any ((eL (eP2 eI eI)) sums_63), .own ((eL (eP2 eI eI)) first_64), .nown, .nown, .nown, .nown, .nown, .nown, .nown, .nown, .nown, .nown, .nown, .nown] rfl) sh_nil)) rfl) (fun last_65 => [.frz (ePot pot), .frz (eI many_1), .frz ((eT (eT eI)) v4.1), .any ((eL (eT eI)) v48), .nown, .unk, .nown, .frz ((eP2 eI (eT eI)) due_57), .frz ((eP3 eI (eT eI) eB) told_61), .any ((eL (eP2 eI eI)) sums_63), .own ((eL (eP2 eI eI)) first_64), .own ((eL (eP2 eI eI)) last_65), .nown, .nown, .nown, .nown, .nown, .nown, .nown, .nown, .nown, .nown, .nown]) (fun _ => rfl)) (fun last_65 => (st_seq (ss_n (ss_st (se_call (FnP.r fn_tupleL) (sh_consL (se_n (se_compMQ (c := (eP2 eI eI)) (e := eI) (si_seq wk_L (se_opT op_catL (se_own (e := (eL (eP2 eI eI))) 10 rfl) (se_own (e := (eL (eP2 eI eI))) 11 rfl) (K := ⟨⟨_, rfl, rfl⟩, trivial⟩))) rfl LEs.rfl' (fun time_at_ => (tg_tup (tgs_cons (tg_n rfl) (tgs_cons (tg_n rfl) tgs_nil)))) (fun time_at_ => (se_frz (e := eI) 15 rfl)) (fun _ => LEs.rfl') (fun _ => LEs.rfl')) [.frz (ePot pot), .frz (eI many_1), .frz ((eT (eT eI)) v4.1), .any ((eL (eT eI)) v48), .nown, .unk, .nown, .frz ((eP2 eI (eT eI)) due_57), .frz ((eP3 eI (eT eI) eB) told_61), .any ((eL (eP2 eI eI)) sums_63), .own ((eL (eP2 eI eI)) first_64), .own ((eL (eP2 eI eI)) last_65), .nown, .nown, .nown, .nown, .nown, .nown, .nown, .nown, .nown, .nown, .nown] rfl) sh_nil)) rfl) (fun order_70 => [.frz (ePot pot), .frz (eI many_1), .frz ((eT (eT eI)) v4.1), .any ((eL (eT eI)) v48), .nown, .unk, .nown, .frz ((eP2 eI (eT eI)) due_57), .frz ((eP3 eI (eT eI) eB) told_61), .any ((eL (eP2 eI eI)) sums_63), .own ((eL (eP2 eI eI)) first_64), .own ((eL (eP2 eI eI)) last_65), .frz ((eT eI) order_70), .nown, .nown, .nown, .nown, .nown, .nown, .nown, .nown, .nown, .nown]) (fun _ => rfl)) (fun order_70 => (st_seq (ss_n (ss_st (se_call fn_maxL (sh_consL (se_n (se_compMP (c := (eT eI)) (e := eI) (si_seqP wk_T (se_frz (e := (eT (eT eI))) 2 rfl)) rfl LEs.rfl' (fun job => (tg_n rfl)) (fun job => (se_opT op_ixT (se_frz (e := (eT eI)) 22 rfl) (se_c (e := eI) (1 : Int) rfl))) (fun _ => LEs.rfl') (fun _ => LEs.rfl')) [.frz (ePot pot), .frz (eI many_1), .frz ((eT (eT eI)) v4.1), .any ((eL (eT eI)) v48), .nown, .unk, .nown, .frz ((eP2 eI (eT eI)) due_57), .frz ((eP3 eI (eT eI) eB) told_61), .any ((eL (eP2 eI eI)) sums_63), .own ((eL (eP2 eI eI)) first_64), .own ((eL (eP2 eI eI)) last_65), .frz ((eT eI) order_70), .nown, .nown, .nown, .nown, .nown, .nown, .nown, .nown, .nown, .nown] rfl) sh_nil)) rfl) (fun middle_74 => [.frz (ePot pot), .frz (eI many_1), .frz ((eT (eT eI)) v4.1), .any ((eL (eT eI)) v48), .nown, .unk, .nown, .frz ((eP2 eI (eT eI)) due_57), .frz ((eP3 eI (eT eI) eB) told_61), .any ((eL (eP2 eI eI)) sums_63), .own ((eL (eP2 eI eI)) first_64), .own ((eL (eP2 eI eI)) last_65), .frz ((eT eI) order_70), .frz (eI middle_74), .nown, .nown, .nown, .nown, .nown, .nown, .nown, .nown, .nown]) (fun _ => rfl)) (fun middle_74 => (st_seq (ss_n (ss_st (se_or (se_opL (OpP.r op_ge) (se_call (fn_minL or_I) (sh_consL (se_n (se_compMP (c := (eT eI)) (e := eI) (si_seqP wk_T (se_frz (e := (eT (eT eI))) 2 rfl)) rfl LEs.rfl' (fun job => (tg_n rfl)) (fun job => (se_opT op_ixT (se_frz (e := (eT eI)) 22 rfl) (se_c (e := eI) (0 : Int) rfl))) (fun _ => LEs.rfl') (fun _ => LEs.rfl')) [.frz (ePot pot), .frz (eI many_1), .frz ((eT (eT eI)) v4.1), .any ((eL (eT eI)) v48), .nown, .unk, .nown, .frz ((eP2 eI (eT eI)) due_57), .frz ((eP3 eI (eT eI) eB) told_61), .any ((eL (eP2 eI eI)) sums_63), .own ((eL (eP2 eI eI)) first_64), .own ((eL (eP2 eI eI)) last_65), .frz ((eT eI) order_70), .frz (eI middle_74), .nown, .nown, .nown, .nown, .nown, .nown, .nown, .nown, .nown] rfl) sh_nil)) (se_frz (e := eI) 13 rfl)) (se_opL (OpP.r op_ge) (se_call (fn_minL or_I) (sh_consL (se_n (se_compMP (c := (eT eI)) (e := eI) (si_seqP wk_T (se_frz (e := (eT (eT eI))) 2 rfl)) rfl LEs.rfl' (fun job => (tg_n rfl)) (fun job => (se_opT op_ixT (se_frz (e := (eT eI)) 22 rfl) (se_c (e := eI) (2 : Int) rfl))) (fun _ => LEs.rfl') (fun _ => LEs.rfl')) [.frz (ePot pot), .frz (eI many_1), .frz ((eT (eT eI)) v4.1), .any ((eL (eT eI)) v48), .nown, .unk, .nown, .frz ((eP2 eI (eT eI)) due_57), .frz ((eP3 eI (eT eI) eB) told_61), .any ((eL (eP2 eI eI)) sums_63), .own ((eL (eP2 eI eI)) first_64), .own ((eL (eP2 eI eI)) last_65), .frz ((eT eI) order_70), .frz (eI middle_74), .nown, .nown, .nown, .nown, .nown, .nown, .nown, .nown, .nown] rfl) sh_nil)) (se_frz (e := eI) 13 rfl)) LEs.rfl' LEs.rfl') rfl) (fun is_sure_84 => [.frz (ePot pot), .frz (eI many_1), .frz ((eT (eT eI)) v4.1), .any ((eL (eT eI)) v48), .nown, .unk, .nown, .frz ((eP2 eI (eT eI)) due_57), .frz ((eP3 eI (eT eI) eB) told_61), .any ((eL (eP2 eI eI)) sums_63), .own ((eL (eP2 eI eI)) first_64), .own ((eL (eP2 eI eI)) last_65), .frz ((eT eI) order_70), .frz (eI middle_74), .frz (eB is_sure_84), .nown, .nown, .nown, .nown, .nown, .nown, .nown, .nown]) (fun _ => rfl)) (fun is_sure_84 => (st_ifret (sx_val (se_rep (e1 := (eP3 eI (eT eI) eB)) (e2 := (eP3 eI (eT eI) eB)) (se_frz (e := (eP3 eI (eT eI) eB)) 8 rfl) (se_tup (eo := (eP3 eI (eT eI) eB)) (fun (c : Int × (List Int) × Bool × Unit) => (c.1, c.2.1, c.2.2.1)) (fun _ => rfl) (sh_consL (se_opL op_ixT (se_opL op_ixL (se_defP (k__law_ends__1) (sh_consP (se_frz (e := (eT (eT eI))) 2 rfl) (sh_consP (se_frz (e := (eT eI)) 12 rfl) (sh_consP (se_tupP (eo := eT eI) (fun (c : Int × Int × Int × Unit) => [c.1, c.2.1, c.2.2.1]) (fun _ => rfl) (sh_consP (se_c (e := eI) (0 : Int) rfl) (sh_consP (se_c (e := eI) (0 : Int) rfl) (sh_consP (se_c (e := eI) (0 : Int) rfl) sh_nil)))) sh_nil)))) (se_unP un_neg (se_c (e := eI) (1 : Int) rfl))) (se_c (e := eI) (2 : Int) rfl)) (sh_consP (se_frz (e := (eT eI)) 12 rfl) (sh_consP (se_frz (e := eB) 14 rfl) sh_nil)))))) (st_ret (se_c (e := eB) false rfl)) (st_ret (se_andP (se_opP op_ge (se_opP op_p30 (se_frz (e := (eP3 eI (eT eI) eB)) 8 rfl) (se_c (e := fun _ : Unit => D.int 0) () rfl)) (se_opP op_p20 (se_frz (e := (eP2 eI (eT eI))) 7 rfl) (se_c (e := fun _ : Unit => D.int 0) () rfl))) (se_orP (se_notP (se_frz (e := eB) 14 rfl)) (se_opP (op_eq eq_I) (se_opP op_p30 (se_frz (e := (eP3 eI (eT eI) eB)) 8 rfl) (se_c (e := fun _ : Unit => D.int 0) () rfl)) (se_opP op_p20 (se_frz (e := (eP2 eI (eT eI))) 7 rfl) (se_c (e := fun _ : Unit => D.int 0) () rfl))) LEs.rfl' LEs.rfl') LEs.rfl' LEs.rfl'))))))))))))))))))))))))))) (by rfl))
def n_law_2 (pot : Unit) (s48 : Unit) (lap : Int) : T (Ctl Unit Unit Bool) :=
  (((((((drawT (10 : Int)).bind fun v70 => T.ret ((1 : Int) + v70)).bind fun v71 => T.ret (v71, ((2 : Int), ()))).bind fun v74 => T.ret (pot, v74)).bind fun p75 => (n__law_jobs p75.1 p75.2.1 p75.2.2.1)).bind fun v84 => ((((((drawT (10 : Int)).bind fun v76 => T.ret ((1 : Int) + v76)).bind fun v77 => T.ret (v77, ((2 : Int), ()))).bind fun v80 => T.ret (pot, v80)).bind fun p81 => (n__law_jobs p81.1 p81.2.1 p81.2.2.1)).bind fun v82 => T.ret (v82, ())).bind fun v85 => T.ret (v84, v85)).bind fun v86 => ((((n__law_are_shifts_right pot v86.1 v86.2.1).bind fun v87 => T.ret (!v87)).bind fun v89 => if v89 then T.ret true else ((n__law_are_three_right pot).bind fun v88 => T.ret (!v88))).bind fun v90 => if v90 then (T.ret (Ctl.rt false)) else (T.ret (Ctl.nx ()))))
def n_law_1 (script : (List Int)) (s1 : Unit) (place : Int) : T (Ctl Unit Unit Bool) :=
  ((potT place).bind fun pot_47 => (((rngT 0 (2 : Int)).bind fun l => forC (n_law_2 pot_47) () l).bind (Ctl.k fun v91 => T.ret (Ctl.nx ()))))
def n_law (script : (List Int)) : T Bool :=
  (((n__law_cells script (3 : Int)).bind fun l => forC (n_law_1 script) () l).bind (Ctl.t fun v92 => (T.ret true)))
theorem k_law : FnN g_law (fun p : (List Int) × Unit => [eScr p.1]) eB (fun p => n_law p.1) :=
  fn_st (fun _ => rfl) (fun ⟨script, _⟩ => st_cast (st_n [.frz (eScr script), .nown, .nown, .nown, .nown, .nown] rfl (st_seqG (sg_for (c := eI) (I := fun (s1 : Unit) => [.frz (eScr script), .nown, .nown, .nown, .nown, .nown]) () (si_seq wk_L (se_defP (k__law_cells) (sh_consP (se_frz (e := eScr) 0 rfl) (sh_consP (se_c (e := eI) (3 : Int) rfl) sh_nil)))) LEs.rfl' (fun s1 place => (tg_n rfl)) (fun s1 place => (sg_seq (ss_n (ss_st (se_defLP fn_pot lf_Pot (sh_consP (se_frz (e := eScr) 0 rfl) (sh_consP (se_frz (e := eI) 1 rfl) sh_nil))) rfl) (fun pot_47 => [.frz (eScr script), .frz (eI place), .frz (ePot pot_47), .nown, .nown, .nown]) (fun _ => rfl)) (fun pot_47 => (sg_endG (sg_for (c := eI) (I := fun (s48 : Unit) => [.frz (eScr script), .frz (eI place), .frz (ePot pot_47), .nown, .nown, .nown]) () (si_rng1P (sh_consP (se_c (e := eI) (2 : Int) rfl) sh_nil)) LEs.rfl' (fun s48 lap => (tg_n rfl)) (fun s48 lap => (sg_seq (ss_n (ss_par (sh_cons (se_defL (k__law_jobs) (lf_T (lf_T lf_I)) (sh_consE (se_frz (e := ePot) 2 rfl) (sh_consL (se_opE (OpP.r op_add) (se_c (e := eI) (1 : Int) rfl) (se_defLP fn_take lf_I (sh_consP (se_frz (e := ePot) 2 rfl) (sh_consP (se_c (e := eI) (10 : Int) rfl) sh_nil)))) (sh_consP (se_c (e := eI) (2 : Int) rfl) sh_nil)))) (sh_consL (se_defL (k__law_jobs) (lf_T (lf_T lf_I)) (sh_consE (se_frz (e := ePot) 2 rfl) (sh_consL (se_opE (OpP.r op_add) (se_c (e := eI) (1 : Int) rfl) (se_defLP fn_take lf_I (sh_consP (se_frz (e := ePot) 2 rfl) (sh_consP (se_c (e := eI) (10 : Int) rfl) sh_nil)))) (sh_consP (se_c (e := eI) (2 : Int) rfl) sh_nil)))) sh_nil))) (fun v86 => [.frz (eScr script), .frz (eI place), .frz (ePot (pot_47)), .frz (eI lap), .frz ((eT (eT eI)) v86.1), .frz ((eT (eT eI)) v86.2.1)]) (fun _ => rfl)) (fun v86 => (sg_if (sx_or (sx_not (sx_val (se_defLP (k__law_are_shifts_right) lf_B (sh_consP (se_frz (e := ePot) 2 rfl) (sh_consP (se_frz (e := (eT (eT eI))) 4 rfl) (sh_consP (se_frz (e := (eT (eT eI))) 5 rfl) sh_nil)))))) (sx_not (sx_val (se_defLP (k__law_are_three_right) lf_B (sh_consP (se_frz (e := ePot) 2 rfl) sh_nil)))) LEs.rfl' LEs.rfl') (sg_j (sj_retP (se_c (e := eB) false rfl))) (sg_next () ⟨.rfl, .rfl, .rfl, .fn, .fn, .fn, trivial⟩)))))) (fun v91 => ⟨.rfl, .fn, .fn, .rfl, .rfl, .rfl, trivial⟩)))))) (fun v92 => (st_ret (se_c (e := eB) true rfl))))) (by rfl))
end Mi.K19
set_option Elab.async false
set_option linter.all false
set_option maxRecDepth 100000
set_option maxHeartbeats 1000000
namespace Mi
open PySem PySem.Spec PyProof.Rows L2

/-! ### natives: what they come to -/
section
variable {α β γ σ τ ρ : Type}
@[simp] theorem if_tt {a b : T α} : (if true = true then a else b) = a := if_pos rfl
@[simp] theorem if_ff {a b : T α} : (if false = true then a else b) = b := if_neg (by simp)
theorem isi_tT {e : α → D} {l : List α} : isiT "tuple" (eT e l) = .ret true := by unfold isiT eT; rw [gIsi_tuple]; rfl
theorem isi_tP2 {e1 : α → D} {e2 : β → D} {p : α × β} : isiT "tuple" (eP2 e1 e2 p) = .ret true := by unfold isiT eP2; rw [gIsi_tuple]; rfl
theorem isi_tP3 {e1 : α → D} {e2 : β → D} {e3 : γ → D} {p : α × β × γ} : isiT "tuple" (eP3 e1 e2 e3 p) = .ret true := by unfold isiT eP3; rw [gIsi_tuple]; rfl
theorem isi_iI {i : Int} : isiT "int" (eI i) = .ret true := by unfold isiT; rw [gIsi_int]; rfl
theorem isi_bI {i : Int} : isiT "bool" (eI i) = .ret false := by unfold isiT; rw [gIsi_bool]; rfl
theorem isi_bB {b : Bool} : isiT "bool" (eB b) = .ret true := by unfold isiT; rw [gIsi_boolb]; rfl
theorem isi_iB {b : Bool} : isiT "int" (eB b) = .ret true := by unfold isiT; rw [gIsi_intb]; rfl
theorem len_T {e : α → D} {l : List α} : intO (g1 lenD [eT e l]) = .ret (l.length : Int) := by
  show intO (some (Hd.val (.int (l.map e).length))) = _
  rw [List.length_map]; rfl
theorem len_P2 {e1 : α → D} {e2 : β → D} {p : α × β} : intO (g1 lenD [eP2 e1 e2 p]) = .ret 2 := rfl
theorem len_P3 {e1 : α → D} {e2 : β → D} {e3 : γ → D} {p : α × β × γ} : intO (g1 lenD [eP3 e1 e2 e3 p]) = .ret 3 := rfl
theorem mapT_of {f : α → T β} {g : α → β} : ∀ {l : List α}, (∀ x ∈ l, f x = .ret (g x)) → mapT f l = .ret (l.map g)
  | [], _ => rfl
  | x :: l, h => by
    unfold mapT
    rw [h x (by simp), T.ret_bind, mapT_of fun y m => h y (by simp [m])]
    rfl
theorem mapT_lim {f : α → T β} {Q : β → Prop} {n : Nat} : ∀ {l : List α}, (∀ x ∈ l, (f x).lim n Q) → (mapT f l).lim (l.length * n) fun ys => ys.length = l.length ∧ ∀ y ∈ ys, Q y
  | [], _ => .ret ⟨rfl, by simp⟩
  | x :: l, h => by
    unfold mapT
    refine T.lim_then (h x (by simp)) (by rw [List.length_cons, Nat.succ_mul]; omega) fun y q => ?_
    rw [List.length_cons, Nat.succ_mul, Nat.add_sub_cancel]
    have := T.lim_bind (F := fun ys => T.ret (y :: ys)) (m := 0) (R := fun ys => ys.length = l.length + 1 ∧ ∀ y ∈ ys, Q y) (fun ys q' => .ret ⟨by simp [q'.1], fun z m => by
      rcases List.mem_cons.mp m with rfl | m
      · exact q
      · exact q'.2 z m⟩) (mapT_lim (l := l) fun y m => h y (by simp [m]))
    exact this
theorem filT_of {p : α → T Bool} {f : α → T β} {p' : α → Bool} {g : α → β} : ∀ {l : List α}, (∀ x ∈ l, p x = .ret (p' x)) → (∀ x ∈ l, p' x = true → f x = .ret (g x)) → filT p f l = .ret ((l.filter p').map g)
  | [], _, _ => rfl
  | x :: l, h, h' => by
    unfold filT
    rw [h x (by simp), T.ret_bind, filT_of (fun y m => h y (by simp [m])) fun y m => h' y (by simp [m])]
    cases hp : p' x with
    | true => rw [if_tt, h' x (by simp) hp, T.ret_bind, T.ret_bind, List.filter_cons, hp]; rfl
    | false => rw [if_ff, List.filter_cons, hp]; rfl
/-- a loop that draws nothing, by an invariant -/
theorem forT_of {f : σ → α → T σ} {g : σ → α → σ} (I : List α → σ → Prop) : ∀ {l pre : List α} {s : σ}, (∀ p x q s, pre ++ l = p ++ x :: q → I p s → f s x = .ret (g s x) ∧ I (p ++ [x]) (g s x)) → I pre s → forT f s l = .ret (l.foldl g s) ∧ I (pre ++ l) (l.foldl g s)
  | [], pre, s, _, i => ⟨rfl, by simpa using i⟩
  | x :: l, pre, s, h, i => by
    obtain ⟨h1, h2⟩ := h pre x l s rfl i
    unfold forT
    rw [h1, T.ret_bind]
    have := forT_of I (l := l) (pre := pre ++ [x]) (s := g s x) (fun p y q s e => h p y q s (by rw [← e]; simp)) h2
    rw [List.append_assoc] at this
    exact this
theorem forT_ret {f : σ → α → T σ} {g : σ → α → σ} : ∀ {l : List α} {s : σ}, (∀ x ∈ l, ∀ s, f s x = .ret (g s x)) → forT f s l = .ret (l.foldl g s)
  | [], s, _ => rfl
  | x :: l, s, h => by
    unfold forT
    rw [h x (by simp), T.ret_bind, forT_ret fun y m => h y (by simp [m])]
    rfl
theorem forT_lim {f : σ → α → T σ} (I : List α → σ → Prop) {n : Nat} : ∀ {l pre : List α} {s : σ}, (∀ p x q s, pre ++ l = p ++ x :: q → I p s → (f s x).lim n (I (p ++ [x]))) → I pre s → (forT f s l).lim (l.length * n) (I (pre ++ l))
  | [], pre, s, _, i => .ret (by simpa using i)
  | x :: l, pre, s, h, i => by
    unfold forT
    refine T.lim_then (h pre x l s rfl i) (by rw [List.length_cons, Nat.succ_mul]; omega) fun s' q => ?_
    rw [List.length_cons, Nat.succ_mul, Nat.add_sub_cancel]
    have := forT_lim I (l := l) (pre := pre ++ [x]) (s := s') (fun p y q s e => h p y q s (by rw [← e]; simp)) q
    rw [List.append_assoc] at this
    exact this
/-- a loop that goes on to its end, within an invariant -/
theorem forC_nx {f : σ → α → T (Ctl σ σ ρ)} (I : List α → σ → Prop) {n : Nat} : ∀ {l pre : List α} {s : σ}, (∀ p x q s, pre ++ l = p ++ x :: q → I p s → (f s x).lim n fun c => match c with | .nx s' => I (p ++ [x]) s' | .ct s' => I (p ++ [x]) s' | _ => False) → I pre s → (forC (τ := τ) f s l).lim (l.length * n) fun c => match c with | .nx s' => I (pre ++ l) s' | _ => False
  | [], pre, s, _, i => .ret (by simpa using i)
  | x :: l, pre, s, h, i => by
    unfold forC
    refine T.lim_then (h pre x l s rfl i) (by rw [List.length_cons, Nat.succ_mul]; omega) fun c q => ?_
    rw [List.length_cons, Nat.succ_mul, Nat.add_sub_cancel]
    cases c with
    | nx s' =>
      have := forC_nx I (l := l) (pre := pre ++ [x]) (s := s') (fun p y q s e => h p y q s (by rw [← e]; simp)) q
      rw [List.append_assoc] at this
      exact this
    | ct s' =>
      have := forC_nx I (l := l) (pre := pre ++ [x]) (s := s') (fun p y q s e => h p y q s (by rw [← e]; simp)) q
      rw [List.append_assoc] at this
      exact this
    | bk _ => exact q.elim
    | rt _ => exact q.elim
theorem rngT_nat {n : Nat} (h : n ≤ 16777216) : rngT 0 (n : Int) = .ret ((List.range n).map fun i : Nat => (i : Int)) := by
  unfold rngT
  rw [if_pos (by unfold rgOk; exact decide_eq_true (by omega))]
  unfold rngL
  congr 1
  simp
theorem rngT_one {a b : Int} (h0 : -1000000 ≤ a) (h1 : a ≤ b) (h2 : b ≤ 1000000) : rngT a b = .ret ((List.range (b - a).toNat).map fun i : Nat => a + (i : Int)) := by
  unfold rngT
  rw [if_pos (by unfold rgOk; exact decide_eq_true (by omega))]
  rfl
theorem ixT_nat {l : List α} {k : Nat} (h : k < l.length) : ixT l (k : Int) = .ret l[k] := by
  unfold ixT L2.atI L2.ixN
  rw [if_pos (by omega), if_pos (by omega)]
  simp [h, T.ofO]
theorem ixT_m1 {l : List α} (h : l ≠ []) : ixT l (-1) = .ret (l.getLast h) := by
  have hl := List.length_pos_iff.mpr h
  unfold ixT L2.atI L2.ixN
  rw [if_neg (by omega), if_pos (by omega)]
  have : (-1 + (l.length : Int)).toNat = l.length - 1 := by omega
  show T.ofO (l[(-1 + (l.length : Int)).toNat]?) = _
  rw [this, List.getLast_eq_getElem, List.getElem?_eq_getElem (by omega)]
  rfl
theorem appT_of {l : List α} {x : α} (h : l.length ≤ 1000000) : appT l x = .ret (l ++ [x]) := if_pos (by omega)
theorem extT_of {l e : List α} (h : l.length + e.length ≤ 1000000) : extT l e = .ret (l ++ e) := if_pos (by omega)
theorem catT_of {l e : List α} (h : l.length + e.length ≤ 1000000) : catT l e = .ret (l ++ e) := if_pos (by omega)
theorem fewT_of {l : List α} (h : l.length ≤ 1000000) : fewT l = .ret l := if_pos (by omega)
theorem repLT_of {a : List α} {k : Nat} (h : k ≤ 1000000) (h' : a.length * k ≤ 1000000) : repLT a (k : Int) = .ret (List.replicate k a).flatten := by
  unfold repLT
  rw [if_pos ⟨by omega, by omega, by simpa using Nat.le_trans h' (by omega)⟩]
  simp
theorem stT_nat {l : List α} {k : Nat} {x : α} (h : k < l.length) : stT l (k : Int) x = .ret (l.set k x) := by
  unfold stT L2.ixN
  rw [if_pos (by omega), if_pos (by omega)]
  simp
theorem popT_nat {l : List α} {k : Nat} (h : k < l.length) (h' : l.length ≤ 1000000) : popT l (k : Int) = .ret (l[k], l.eraseIdx k) := by
  unfold popT L2.ixN
  rw [if_pos (by omega), if_pos (by omega)]
  simp only [Int.toNat_natCast, List.getElem?_eq_getElem h]
  rw [if_pos (by omega)]
theorem draw_lim {k : Int} {n : Nat} {Q : Int → Prop} (h : 0 < k) (h' : k < 1000000) (l : 1 ≤ n) (q : ∀ d : Nat, (d : Int) < k → Q d) : (drawT k).lim n Q := by
  unfold drawT
  rw [if_pos ⟨h, by omega⟩]
  exact T.lim_draw l fun d hd => .ret (q d (by omega))
theorem draw_then {k : Int} {n : Nat} {F : Int → T β} {R : β → Prop} (h : 0 < k) (h' : k < 1000000) (l : 1 ≤ n) (q : ∀ d : Nat, (d : Int) < k → (F d).lim (n - 1) R) : ((drawT k).bind F).lim n R :=
  T.lim_then (draw_lim (Q := fun x => ∃ d : Nat, x = d ∧ (d : Int) < k) h h' (Nat.le_refl 1) fun d hd => ⟨d, rfl, hd⟩) l fun x ⟨d, e, hd⟩ => e ▸ q d hd
theorem rep_not {d : D} (h : repOk d = true) : repT not d d = .ret false := by
  unfold repT; rw [if_pos h]; simp
theorem minT_ne {lt : α → α → Bool} {l : List α} (h : l ≠ []) : ∃ m, minT lt l = .ret m ∧ m ∈ l := by
  cases l with
  | nil => exact (h rfl).elim
  | cons x l =>
    refine ⟨_, rfl, ?_⟩
    have : ∀ (l : List α) (x : α), l.foldl (fun a y => if lt y a then y else a) x ∈ x :: l := fun l => by
      induction l with
      | nil => intro x; simp
      | cons y l ih =>
        intro x
        rw [List.foldl_cons]
        split
        · have := ih y; simp at this ⊢; exact .inr this
        · have := ih x
          rcases List.mem_cons.mp this with h | h
          · rw [h]; simp
          · simp [h]
    exact this l x
theorem minI_of {l : List Int} (h : l ≠ []) : ∃ m, minT ltI l = .ret m ∧ m ∈ l ∧ ∀ x ∈ l, m ≤ x := by
  cases l with
  | nil => exact (h rfl).elim
  | cons x l =>
    obtain ⟨m, e, hm⟩ := minT_ne (lt := ltI) (l := x :: l) (by simp)
    refine ⟨m, e, hm, ?_⟩
    have : ∀ (l : List Int) (x : Int), ∀ y ∈ x :: l, l.foldl (fun a y => if ltI y a then y else a) x ≤ y := fun l => by
      induction l with
      | nil => intro x y m; simp at m; subst m; exact Int.le_refl _
      | cons z l ih =>
        intro x y m
        rw [List.foldl_cons]
        have h1 := ih (if ltI z x = true then z else x)
        have h0 : (if ltI z x = true then z else x) ≤ x ∧ (if ltI z x = true then z else x) ≤ z := by
          unfold ltI
          by_cases c : z < x
          · simp [c]; omega
          · simp [c]; omega
        have h2 := h1 _ List.mem_cons_self
        rcases List.mem_cons.mp m with rfl | m
        · omega
        · rcases List.mem_cons.mp m with rfl | m
          · omega
          · exact h1 y (by simp [m])
    have e' : minT ltI (x :: l) = .ret (l.foldl (fun a y => if ltI y a then y else a) x) := rfl
    rw [e'] at e
    cases e
    exact this l x
theorem maxI_of {l : List Int} (h : l ≠ []) : ∃ m, maxT l = .ret m ∧ m ∈ l ∧ ∀ x ∈ l, x ≤ m := by
  cases l with
  | nil => exact (h rfl).elim
  | cons x l =>
    refine ⟨_, rfl, ?_⟩
    have : ∀ (l : List Int) (x : Int), l.foldl max x ∈ x :: l ∧ ∀ y ∈ x :: l, y ≤ l.foldl max x := fun l => by
      induction l with
      | nil => intro x; simp
      | cons z l ih =>
        intro x
        rw [List.foldl_cons]
        obtain ⟨h1, h2⟩ := ih (max x z)
        refine ⟨?_, fun y m => ?_⟩
        · rcases List.mem_cons.mp h1 with h | h
          · rw [h]
            rcases Int.le_total x z with c | c
            · rw [Int.max_eq_right c]; simp
            · rw [Int.max_eq_left c]; simp
          · simp [h]
        · have := h2 _ List.mem_cons_self
          rcases List.mem_cons.mp m with rfl | m
          · omega
          · rcases List.mem_cons.mp m with rfl | m
            · omega
            · exact h2 y (by simp [m])
    exact this l x
end
end Mi
set_option Elab.async false
set_option linter.all false
set_option maxRecDepth 100000
set_option maxHeartbeats 1000000
namespace Mi.K19
open PySem PySem.Spec PyProof.Rows L2 Mi

/-! ### two machines -/
abbrev Jb := Int × Int
def stp (s : Int × Int) (j : Jb) : Int × Int := (s.1 + j.1, max s.2 (s.1 + j.1) + j.2)
def F (s : Int × Int) (js : List Jb) : Int × Int := js.foldl stp s
def le2 (s t : Int × Int) : Prop := s.1 = t.1 ∧ s.2 ≤ t.2
theorem F_cons (s : Int × Int) (j : Jb) (js : List Jb) : F s (j :: js) = F (stp s j) js := rfl
theorem F_app (s : Int × Int) (a b : List Jb) : F s (a ++ b) = F (F s a) b := List.foldl_append
theorem stp_mono {s t : Int × Int} (h : le2 s t) (j : Jb) : le2 (stp s j) (stp t j) := by
  obtain ⟨h1, h2⟩ := h
  unfold stp le2
  dsimp only
  omega
theorem F_mono : ∀ (js : List Jb) {s t : Int × Int}, le2 s t → le2 (F s js) (F t js)
  | [], s, t, h => h
  | j :: js, s, t, h => F_mono js (stp_mono h j)
theorem le2_trans {a b c : Int × Int} (h : le2 a b) (g : le2 b c) : le2 a c := ⟨h.1.trans g.1, Int.le_trans h.2 g.2⟩
theorem le2_refl (a : Int × Int) : le2 a a := ⟨rfl, Int.le_refl _⟩
/-- may go ahead -/
def Jo (x y : Jb) : Prop := min x.1 y.2 ≤ min y.1 x.2
theorem stp_swap {x y : Jb} (h : Jo x y) (s : Int × Int) : le2 (stp (stp s x) y) (stp (stp s y) x) := by
  unfold Jo at h
  unfold stp le2
  dsimp only
  omega
theorem bubble {x : Jb} : ∀ (p1 p2 : List Jb) (s : Int × Int), (∀ y ∈ p1, Jo x y) → le2 (F s (x :: (p1 ++ p2))) (F s (p1 ++ x :: p2))
  | [], p2, s, _ => le2_refl _
  | y :: p1, p2, s, h => by
    have h1 := bubble p1 p2 (stp s y) fun z m => h z (by simp [m])
    have h2 := F_mono (p1 ++ p2) (stp_swap (h y (by simp)) s)
    exact le2_trans h2 h1
theorem johnson_best : ∀ {js p : List Jb} {s : Int × Int}, js.Pairwise Jo → p.Perm js → le2 (F s js) (F s p)
  | [], p, s, _, hp => by rw [List.perm_nil.mp hp]; exact le2_refl _
  | x :: js, p, s, hj, hp => by
    obtain ⟨p1, p2, rfl⟩ := List.append_of_mem (hp.mem_iff.mpr (List.mem_cons_self))
    have hp' : (p1 ++ p2).Perm js := (List.perm_cons x).mp ((List.perm_middle.symm).trans hp)
    obtain ⟨h1, h2⟩ := List.pairwise_cons.mp hj
    have b := bubble p1 p2 s fun y m => h1 y (hp'.mem_iff.mp (by simp [m]))
    exact le2_trans (johnson_best (s := stp s x) h2 hp') b
/-! ### sums, bounds -/
def Aa (js : List Jb) : Int := (js.map (·.1)).sum
def Bb (js : List Jb) : Int := (js.map (·.2)).sum
theorem Aa_cons (j : Jb) (js : List Jb) : Aa (j :: js) = j.1 + Aa js := by simp [Aa]
theorem Bb_cons (j : Jb) (js : List Jb) : Bb (j :: js) = j.2 + Bb js := by simp [Bb]
theorem Aa_app (a b : List Jb) : Aa (a ++ b) = Aa a + Aa b := by simp [Aa]
theorem Bb_app (a b : List Jb) : Bb (a ++ b) = Bb a + Bb b := by simp [Bb]
theorem sum_perm {a b : List Int} (h : a.Perm b) : a.sum = b.sum := by
  induction h with
  | nil => rfl
  | cons x _ ih => simp [ih]
  | swap x y l => simp; omega
  | trans _ _ i1 i2 => exact i1.trans i2
theorem Aa_perm {a b : List Jb} (h : a.Perm b) : Aa a = Aa b := sum_perm (h.map _)
theorem Bb_perm {a b : List Jb} (h : a.Perm b) : Bb a = Bb b := sum_perm (h.map _)
def Pos2 (js : List Jb) : Prop := ∀ j ∈ js, 0 ≤ j.1 ∧ 0 ≤ j.2
theorem Bb_nonneg : ∀ {js : List Jb}, Pos2 js → 0 ≤ Bb js
  | [], _ => by simp [Bb]
  | j :: js, h => by
    have := Bb_nonneg (js := js) fun x m => h x (by simp [m])
    have := h j (by simp)
    rw [Bb_cons]; omega
theorem Aa_nonneg : ∀ {js : List Jb}, Pos2 js → 0 ≤ Aa js
  | [], _ => by simp [Aa]
  | j :: js, h => by
    have := Aa_nonneg (js := js) fun x m => h x (by simp [m])
    have := h j (by simp)
    rw [Aa_cons]; omega
theorem F_1 : ∀ (js : List Jb) (s : Int × Int), (F s js).1 = s.1 + Aa js
  | [], s => by simp [F, Aa]
  | j :: js, s => by rw [F_cons, F_1 js, Aa_cons]; simp [stp]; omega
def Hh : List Jb → Int
  | [] => 0
  | j :: js => j.1 + max (j.2 + Bb js) (Hh js)
theorem Hh_cons (j : Jb) (js : List Jb) : Hh (j :: js) = j.1 + max (j.2 + Bb js) (Hh js) := rfl
theorem F_H : ∀ {js : List Jb} {s : Int × Int}, Pos2 js → s.1 ≤ s.2 → (F s js).2 = max (s.2 + Bb js) (s.1 + Hh js)
  | [], s, _, h => by simp [F, Bb, Hh]; omega
  | j :: js, s, hp, h => by
    have hj := hp j (by simp)
    have hq : Pos2 js := fun x m => hp x (by simp [m])
    rw [F_cons, F_H hq (by unfold stp; dsimp only; omega), Bb_cons, Hh_cons]
    unfold stp
    dsimp only
    omega
def Ms (js : List Jb) : Int := (F (0, 0) js).2
theorem Ms_H {js : List Jb} (h : Pos2 js) : Ms js = max (Bb js) (Hh js) := by
  unfold Ms; rw [F_H h (Int.le_refl _)]; simp
def sw (j : Jb) : Jb := (j.2, j.1)
theorem Aa_sw (js : List Jb) : Bb ((js.reverse).map sw) = Aa js := by
  unfold Aa Bb
  rw [List.map_map, show ((fun x : Jb => x.2) ∘ sw) = fun x => x.1 from rfl]
  exact sum_perm ((List.reverse_perm js).map _)
theorem pos_sw {js : List Jb} (h : Pos2 js) : Pos2 ((js.reverse).map sw) := fun x m => by
  obtain ⟨y, my, rfl⟩ := List.mem_map.mp m
  have := h y (by simpa using my)
  exact ⟨this.2, this.1⟩
theorem rev_Ms : ∀ (n : Nat) (js : List Jb), js.length = n → Pos2 js → Ms ((js.reverse).map sw) = Ms js
  | 0, js, hn, _ => by rw [List.length_eq_zero_iff.mp hn]; rfl
  | n + 1, js, hn, hp => by
    obtain ⟨ks, j, rfl⟩ : ∃ ks j, js = ks ++ [j] := by
      rcases List.eq_nil_or_concat js with e | ⟨p, x, e⟩
      · subst e; simp at hn
      · exact ⟨p, x, by rw [e]; simp⟩
    have hk : Pos2 ks := fun x m => hp x (by simp [m])
    have hj := hp j (by simp)
    have ih := rev_Ms n ks (by simp at hn; omega) hk
    have e1 : Ms (ks ++ [j]) = max (Ms ks) (Aa ks + j.1) + j.2 := by
      unfold Ms
      rw [F_app]
      show (stp (F (0, 0) ks) j).2 = _
      unfold stp
      dsimp only
      rw [F_1]; simp
    have hr := pos_sw hk
    have e2 : Ms (((ks ++ [j]).reverse).map sw) = max (j.2 + j.1 + Aa ks) (j.2 + Hh ((ks.reverse).map sw)) := by
      rw [List.reverse_append, List.reverse_singleton, List.singleton_append, List.map_cons]
      unfold Ms
      rw [F_cons, F_H hr (by unfold stp sw; dsimp only; omega), Aa_sw]
      unfold stp sw
      dsimp only
      omega
    rw [Ms_H hr, Aa_sw] at ih
    rw [e1, e2, ← ih]
    omega
theorem rev_eq {js : List Jb} (hp : Pos2 js) : Ms ((js.reverse).map sw) = Ms js := rev_Ms _ js rfl hp
/-- less to do is done no later -/
theorem F_sub {a b : List Jb} (h : a.Sublist b) : ∀ {s t : Int × Int}, Pos2 b → s.1 ≤ t.1 → s.2 ≤ t.2 → (F s a).1 ≤ (F t b).1 ∧ (F s a).2 ≤ (F t b).2 := by
  induction h with
  | slnil => intro s t _ h1 h2; exact ⟨h1, h2⟩
  | cons x _ ih =>
    intro s t hp h1 h2
    have hx := hp x (by simp)
    exact ih (fun y m => hp y (by simp [m])) (by unfold stp; dsimp only; omega) (by unfold stp; dsimp only; omega)
  | cons_cons x _ ih =>
    intro s t hp h1 h2
    exact ih (fun y m => hp y (by simp [m])) (by unfold stp; dsimp only; omega) (by unfold stp; dsimp only; omega)
theorem Ms_lowA {js : List Jb} {c : Int} (hp : Pos2 js) (hn : js ≠ []) (hc : ∀ j ∈ js, c ≤ j.2) : Aa js + c ≤ Ms js := by
  rcases List.eq_nil_or_concat js with e | ⟨p, x, e⟩
  · exact (hn e).elim
  · rw [List.concat_eq_append] at e
    subst e
    have := hc x (by simp)
    unfold Ms
    rw [F_app]
    show _ ≤ (stp (F (0, 0) p) x).2
    unfold stp
    dsimp only
    rw [F_1, Aa_app, Aa_cons]
    simp [Aa]
    omega
theorem Ms_lowB {js : List Jb} {c : Int} (hp : Pos2 js) (hn : js ≠ []) (hc : ∀ j ∈ js, c ≤ j.1) : Bb js + c ≤ Ms js := by
  cases js with
  | nil => exact (hn rfl).elim
  | cons j js =>
    have := hc j (by simp)
    rw [Ms_H hp, Bb_cons, Hh_cons]
    omega
theorem F_shift : ∀ (js : List Jb) (x y c : Int), F (x + c, y + c) js = ((F (x, y) js).1 + c, (F (x, y) js).2 + c)
  | [], x, y, c => rfl
  | j :: js, x, y, c => by
    rw [F_cons, F_cons]
    have e : stp (x + c, y + c) j = ((stp (x, y) j).1 + c, (stp (x, y) j).2 + c) := by
      unfold stp; dsimp only; rw [Prod.mk.injEq]; omega
    rw [e, F_shift js]
theorem Ms_app {a b : List Jb} (ha : Pos2 a) (hb : Pos2 b) : Ms (a ++ b) ≤ Ms a + Ms b := by
  unfold Ms
  rw [F_app]
  have h1 : (F (0, 0) a).1 ≤ (F (0, 0) a).2 := by
    have := Ms_H ha
    unfold Ms at this
    rw [F_1]
    rcases Classical.em (a = []) with rfl | hn
    · simp [F, Aa]
    · have := Ms_lowA ha hn (c := 0) fun j m => (ha j m).2
      unfold Ms at this
      simp; omega
  generalize F (0, 0) a = s at h1
  have h2 := (F_sub (List.Sublist.refl b) (s := s) (t := (s.2, s.2)) hb h1 (Int.le_refl _)).2
  have h3 := F_shift b 0 0 s.2
  simp only [Int.zero_add] at h3
  rw [h3] at h2
  dsimp only at h2
  omega
end Mi.K19
set_option Elab.async false
set_option linter.all false
set_option maxRecDepth 100000
set_option maxHeartbeats 1000000
namespace Mi
open PySem PySem.Spec PyProof.Rows L2
section
variable {α : Type}
theorem srtBy_perm (lt : α → α → Bool) (l : List α) : (srtBy lt l).Perm l := List.mergeSort_perm _ _
theorem srtBy_sorted {e : α → D} [DecidableEq α] {lt : α → α → Bool} {k : Nat} (h : OrdE e lt k) (l : List α) : (srtBy lt l).Pairwise fun a b => lt b a = false := by
  have e1 : (fun a b => !lt b a) = fun a b => !rowB (enc (e b)) (enc (e a)) := by
    funext a b; rw [h.row]
  have t : PySem.W.TotalLe fun a b => !lt b a := by rw [e1]; exact sortTotal fun a => enc (e a)
  exact (PySem.W.sort_pairwise t l).imp fun h => by simpa using h
theorem lt2I_le {p q : Int × Int} (h : lt2 ltI ltI q p = false) : p.1 ≤ q.1 := by
  unfold lt2 ltI at h
  split at h
  · omega
  · simp at h; exact h
theorem or_II : OrdE (eP2 eI eI) (lt2 ltI ltI) 2 := or_P2 (k := 1) or_I or_I
/-- the numbers of a row -/
def idx (n : Nat) : List Int := (List.range n).map fun i : Nat => (i : Int)
theorem mem_idx {n : Nat} {x : Int} : x ∈ idx n ↔ 0 ≤ x ∧ x < n := by
  unfold idx
  rw [List.mem_map]
  constructor
  · rintro ⟨i, m, rfl⟩
    have := List.mem_range.mp m
    omega
  · rintro ⟨a, b⟩
    exact ⟨x.toNat, List.mem_range.mpr (by omega), by omega⟩
theorem nodup_idx (n : Nat) : (idx n).Nodup := List.pairwise_map.mpr (List.pairwise_lt_range.imp fun h => by omega)
theorem len_idx (n : Nat) : (idx n).length = n := by simp [idx]
theorem enm_fst (l : List α) : (enmL l).map (·.1) = idx l.length := by
  unfold enmL idx
  rw [List.map_map]
  apply List.ext_getElem
  · simp
  · intro i h1 h2; simp
theorem enm_mem {l : List α} {z : Int × α} (h : z ∈ enmL l) : ∃ i : Nat, z.1 = i ∧ l[i]? = some z.2 := by
  unfold enmL at h
  obtain ⟨y, my, rfl⟩ := List.mem_map.mp h
  obtain ⟨x, i⟩ := y
  have := List.mem_zipIdx_iff_getElem?.mp my
  exact ⟨i, rfl, by simpa using this⟩
end
end Mi
namespace Mi.K19
open PySem PySem.Spec PyProof.Rows L2 Mi
/-! ### a sequence by the rule -/
def at2 (js : List Jb) (i : Int) : Jb := js.getD i.toNat (0, 0)
def firstJ (c : Jb → Bool) (js : List Jb) : List (Int × Int) := srtBy (lt2 ltI ltI) (((enmL js).filter fun z => c z.2).map fun z => (z.2.1, z.1))
def lastJ (c : Jb → Bool) (js : List Jb) : List (Int × Int) := srtBy (lt2 ltI ltI) (((enmL js).filter fun z => !c z.2).map fun z => (-z.2.2, z.1))
def ordJ (c : Jb → Bool) (js : List Jb) : List Int := (firstJ c js ++ lastJ c js).map (·.2)
theorem ordJ_perm (c : Jb → Bool) (js : List Jb) : (ordJ c js).Perm (idx js.length) := by
  unfold ordJ firstJ lastJ
  rw [List.map_append]
  have h1 := (srtBy_perm (lt2 ltI ltI) (((enmL js).filter fun z => c z.2).map fun z => (z.2.1, z.1))).map (·.2)
  have h2 := (srtBy_perm (lt2 ltI ltI) (((enmL js).filter fun z => !c z.2).map fun z => (-z.2.2, z.1))).map (·.2)
  refine (h1.append h2).trans ?_
  rw [List.map_map, List.map_map, ← enm_fst, show ((fun x : Int × Int => x.2) ∘ fun z : Int × Jb => (z.2.1, z.1)) = fun z => z.1 from rfl, show ((fun x : Int × Int => x.2) ∘ fun z : Int × Jb => (-z.2.2, z.1)) = fun z => z.1 from rfl, ← List.map_append]
  exact (List.filter_append_perm _ _).map _
theorem first_mem {c : Jb → Bool} {js : List Jb} {z : Int × Int} (h : z ∈ firstJ c js) : c (at2 js z.2) = true ∧ (at2 js z.2).1 = z.1 := by
  have h := (srtBy_perm _ _).mem_iff.mp h
  obtain ⟨y, my, rfl⟩ := List.mem_map.mp h
  obtain ⟨my, hc⟩ := List.mem_filter.mp my
  obtain ⟨i, e1, e2⟩ := enm_mem my
  dsimp only
  have : at2 js y.1 = y.2 := by
    unfold at2; rw [e1]; simp [List.getD_eq_getElem?_getD, e2]
  rw [this]
  exact ⟨hc, rfl⟩
theorem last_mem {c : Jb → Bool} {js : List Jb} {z : Int × Int} (h : z ∈ lastJ c js) : c (at2 js z.2) = false ∧ -(at2 js z.2).2 = z.1 := by
  have h := (srtBy_perm _ _).mem_iff.mp h
  obtain ⟨y, my, rfl⟩ := List.mem_map.mp h
  obtain ⟨my, hc⟩ := List.mem_filter.mp my
  obtain ⟨i, e1, e2⟩ := enm_mem my
  dsimp only
  have : at2 js y.1 = y.2 := by
    unfold at2; rw [e1]; simp [List.getD_eq_getElem?_getD, e2]
  rw [this]
  exact ⟨by simpa using hc, rfl⟩
theorem ordJ_pair {c : Jb → Bool} (h1 : ∀ j, c j = true → j.1 ≤ j.2) (h2 : ∀ j, c j = false → j.2 ≤ j.1) (js : List Jb) : ((ordJ c js).map (at2 js)).Pairwise Jo := by
  unfold ordJ
  rw [List.map_map, List.pairwise_map, List.pairwise_append]
  refine ⟨?_, ?_, ?_⟩
  · refine List.Pairwise.imp_of_mem (fun {a b} ma mb hab => ?_) (srtBy_sorted or_II _)
    have := lt2I_le hab
    obtain ⟨a1, a2⟩ := first_mem ma
    obtain ⟨b1, b2⟩ := first_mem mb
    have := h1 _ a1
    show Jo (at2 js a.2) (at2 js b.2)
    unfold Jo
    omega
  · refine List.Pairwise.imp_of_mem (fun {a b} ma mb hab => ?_) (srtBy_sorted or_II _)
    have := lt2I_le hab
    obtain ⟨a1, a2⟩ := last_mem ma
    obtain ⟨b1, b2⟩ := last_mem mb
    have := h2 _ b1
    show Jo (at2 js a.2) (at2 js b.2)
    unfold Jo
    omega
  · intro a ma b mb
    obtain ⟨a1, a2⟩ := first_mem ma
    obtain ⟨b1, b2⟩ := last_mem mb
    have := h1 _ a1
    have := h2 _ b1
    show Jo (at2 js a.2) (at2 js b.2)
    unfold Jo
    omega
theorem at2_idx (js : List Jb) : (idx js.length).map (at2 js) = js := by
  unfold idx
  rw [List.map_map]
  apply List.ext_getElem
  · simp
  · intro i a b
    simp [at2, List.getD_eq_getElem?_getD, b]
/-- how soon a sequence is done -/
def Mo (js : List Jb) (o : List Int) : Int := Ms (o.map (at2 js))
theorem ordJ_least {c : Jb → Bool} (h1 : ∀ j, c j = true → j.1 ≤ j.2) (h2 : ∀ j, c j = false → j.2 ≤ j.1) (js : List Jb) {o : List Int} (ho : o.Perm (idx js.length)) : Mo js (ordJ c js) ≤ Mo js o :=
  (johnson_best (s := (0, 0)) (ordJ_pair h1 h2 js) ((ho.trans (ordJ_perm c js).symm).map _)).2
def cP (j : Jb) : Bool := decide (j.1 ≤ j.2)
def cL (j : Jb) : Bool := decide (j.1 < j.2)
theorem cP1 (j : Jb) (h : cP j = true) : j.1 ≤ j.2 := of_decide_eq_true h
theorem cP2 (j : Jb) (h : cP j = false) : j.2 ≤ j.1 := by have := of_decide_eq_false h; omega
theorem cL1 (j : Jb) (h : cL j = true) : j.1 ≤ j.2 := by have := of_decide_eq_true h; omega
theorem cL2 (j : Jb) (h : cL j = false) : j.2 ≤ j.1 := by have := of_decide_eq_false h; omega
def best (js : List Jb) : Int := Mo js (ordJ cP js)
theorem best_L (js : List Jb) : Mo js (ordJ cL js) = best js :=
  Int.le_antisymm (ordJ_least cL1 cL2 js (ordJ_perm cP js)) (ordJ_least cP1 cP2 js (ordJ_perm cL js))
theorem best_le {js : List Jb} {o : List Int} (ho : o.Perm (idx js.length)) : best js ≤ Mo js o := ordJ_least cP1 cP2 js ho
theorem seq_perm {js : List Jb} {o : List Int} (ho : o.Perm (idx js.length)) : (o.map (at2 js)).Perm js := by
  have := ho.map (at2 js)
  rwa [at2_idx] at this
/-- any row of the same jobs -/
theorem best_le' {js p : List Jb} (hp : p.Perm js) : best js ≤ Ms p := by
  have h := johnson_best (s := (0, 0)) (ordJ_pair cP1 cP2 js) (hp.trans (seq_perm (ordJ_perm cP js)).symm)
  exact h.2
theorem best_is (js : List Jb) : ∃ p : List Jb, p.Perm js ∧ best js = Ms p := ⟨_, seq_perm (ordJ_perm cP js), rfl⟩
theorem pos_perm {a b : List Jb} (h : a.Perm b) (p : Pos2 b) : Pos2 a := fun j m => p j (h.mem_iff.mp m)
theorem sub_perm {α : Type} : ∀ {p a b : List α}, p.Perm (a ++ b) → ∃ q : List α, q.Perm a ∧ q.Sublist p
  | [], a, b, h => by
    have e := List.nil_perm.mp h
    have : a = [] := (List.append_eq_nil_iff.mp e).1
    subst this
    exact ⟨[], .nil, .slnil⟩
  | x :: p, a, b, h => by
    have m : x ∈ a ++ b := h.mem_iff.mp (by simp)
    rcases List.mem_append.mp m with m | m
    · obtain ⟨a1, a2, rfl⟩ := List.append_of_mem m
      have h' : p.Perm ((a1 ++ a2) ++ b) := by
        refine (List.perm_cons x).mp (h.trans ?_)
        rw [List.append_assoc, List.append_assoc]
        exact List.perm_middle
      obtain ⟨q, hq, hs⟩ := sub_perm h'
      exact ⟨x :: q, ((List.perm_cons x).mpr hq).trans List.perm_middle.symm, hs.cons_cons x⟩
    · obtain ⟨b1, b2, rfl⟩ := List.append_of_mem m
      have h' : p.Perm (a ++ (b1 ++ b2)) := by
        refine (List.perm_cons x).mp (h.trans ?_)
        rw [← List.append_assoc, ← List.append_assoc]
        exact List.perm_middle
      obtain ⟨q, hq, hs⟩ := sub_perm h'
      exact ⟨q, hq, hs.cons x⟩
theorem best_part {js ks : List Jb} {rest : List Jb} (hp : Pos2 js) (h : js.Perm (ks ++ rest)) : best ks ≤ best js := by
  obtain ⟨p, pp, e⟩ := best_is js
  rw [e]
  obtain ⟨q, hq, hs⟩ : ∃ q : List Jb, q.Perm ks ∧ q.Sublist p := by
    exact sub_perm (pp.trans h)
  exact Int.le_trans (best_le' hq) (F_sub hs (pos_perm pp hp) (Int.le_refl _) (Int.le_refl _)).2
theorem best_app {a b : List Jb} (ha : Pos2 a) (hb : Pos2 b) : best (a ++ b) ≤ best a + best b := by
  obtain ⟨p, pp, e⟩ := best_is a
  obtain ⟨q, pq, e'⟩ := best_is b
  rw [e, e']
  exact Int.le_trans (best_le' (pp.append pq)) (Ms_app (pos_perm pp ha) (pos_perm pq hb))
theorem best_lowA {js : List Jb} {c : Int} (hp : Pos2 js) (hn : js ≠ []) (hc : ∀ j ∈ js, c ≤ j.2) : Aa js + c ≤ best js := by
  obtain ⟨p, pp, e⟩ := best_is js
  rw [e, ← Aa_perm pp]
  exact Ms_lowA (pos_perm pp hp) (fun h => hn (by subst h; exact (List.nil_perm.mp pp))) fun j m => hc j (pp.mem_iff.mp m)
theorem best_lowB {js : List Jb} {c : Int} (hp : Pos2 js) (hn : js ≠ []) (hc : ∀ j ∈ js, c ≤ j.1) : Bb js + c ≤ best js := by
  obtain ⟨p, pp, e⟩ := best_is js
  rw [e, ← Bb_perm pp]
  exact Ms_lowB (pos_perm pp hp) (fun h => hn (by subst h; exact (List.nil_perm.mp pp))) fun j m => hc j (pp.mem_iff.mp m)
theorem sw_sw : ∀ l : List Jb, (l.map sw).map sw = l := fun l => by
  rw [List.map_map, show sw ∘ sw = id from rfl, List.map_id]
theorem best_sw {js : List Jb} (hp : Pos2 js) : best (js.map sw) = best js := by
  have half : ∀ {js : List Jb}, Pos2 js → best (js.map sw) ≤ best js := fun {js} hp => by
    obtain ⟨p, pp, e⟩ := best_is js
    rw [e, ← rev_eq (pos_perm pp hp)]
    exact best_le' (((List.reverse_perm p).trans pp).map sw)
  have hq : Pos2 (js.map sw) := fun j m => by
    obtain ⟨y, my, rfl⟩ := List.mem_map.mp m
    exact ⟨(hp y my).2, (hp y my).1⟩
  have := half hq
  rw [sw_sw] at this
  exact Int.le_antisymm (half hp) this
/-! ### three machines -/
abbrev Jc := Int × Int × Int
def stp3 (s : Int × Int × Int) (j : Jc) : Int × Int × Int := (s.1 + j.1, max s.2.1 (s.1 + j.1) + j.2.1, max s.2.2 (max s.2.1 (s.1 + j.1) + j.2.1) + j.2.2)
def F3 (s : Int × Int × Int) (js : List Jc) : Int × Int × Int := js.foldl stp3 s
def s2 (j : Jc) : Jb := (j.1 + j.2.1, j.2.1 + j.2.2)
def Cc (js : List Jc) : Int := (js.map (·.2.1)).sum
def Pos3 (js : List Jc) : Prop := ∀ j ∈ js, 0 ≤ j.1 ∧ 0 ≤ j.2.1 ∧ 0 ≤ j.2.2
theorem F3_A {b : Int} : ∀ {js : List Jc} {s : Int × Int × Int} {t : Int × Int} {z : Int}, Pos3 js → (∀ j ∈ js, j.2.1 ≤ b ∧ b ≤ j.1) → s.2.1 ≤ s.1 + b → t = (s.1 + z, s.2.2 + z) → (F t (js.map s2)).2 = (F3 s js).2.2 + z + Cc js
  | [], s, t, z, _, _, _, e => by subst e; simp [F, F3, Cc]
  | j :: js, s, t, z, hp, hb, hs, e => by
    have h1 := hb j (by simp)
    have h0 := hp j (by simp)
    have ih := F3_A (b := b) (js := js) (s := stp3 s j) (t := stp t (s2 j)) (z := z + j.2.1) (fun x m => hp x (by simp [m])) (fun x m => hb x (by simp [m])) (by unfold stp3; dsimp only; omega) (by subst e; unfold stp stp3 s2; dsimp only; rw [Prod.mk.injEq]; omega)
    show (F (stp t (s2 j)) (js.map s2)).2 = (F3 (stp3 s j) js).2.2 + z + Cc (j :: js)
    rw [ih]
    simp [Cc]; omega
theorem F3_C {b : Int} : ∀ {js : List Jc} {s : Int × Int × Int} {t : Int × Int} {z : Int}, Pos3 js → (∀ j ∈ js, j.2.1 ≤ b ∧ b ≤ j.2.2) → s.2.1 ≤ s.1 ∨ s.2.1 + b ≤ s.2.2 → t = (s.1 + z, s.2.2 + z) → (F t (js.map s2)).2 = (F3 s js).2.2 + z + Cc js
  | [], s, t, z, _, _, _, e => by subst e; simp [F, F3, Cc]
  | j :: js, s, t, z, hp, hb, hs, e => by
    have h1 := hb j (by simp)
    have h0 := hp j (by simp)
    have ih := F3_C (b := b) (js := js) (s := stp3 s j) (t := stp t (s2 j)) (z := z + j.2.1) (fun x m => hp x (by simp [m])) (fun x m => hb x (by simp [m])) (by unfold stp3; dsimp only; omega) (by subst e; unfold stp stp3 s2; dsimp only; rw [Prod.mk.injEq]; omega)
    show (F (stp t (s2 j)) (js.map s2)).2 = (F3 (stp3 s j) js).2.2 + z + Cc (j :: js)
    rw [ih]
    simp [Cc]; omega
def Ms3 (js : List Jc) : Int := (F3 (0, 0, 0) js).2.2
def Sure (js : List Jc) (b : Int) : Prop := (∀ j ∈ js, j.2.1 ≤ b) ∧ ((∀ j ∈ js, b ≤ j.1) ∨ ∀ j ∈ js, b ≤ j.2.2)
theorem Ms3_s2 {js : List Jc} {b : Int} (hp : Pos3 js) (hb0 : 0 ≤ b) (h : Sure js b) : Ms (js.map s2) = Ms3 js + Cc js := by
  unfold Ms Ms3
  rcases h.2 with h2 | h2
  · have := F3_A (b := b) (s := (0, 0, 0)) (t := (0, 0)) (z := 0) hp (fun j m => ⟨h.1 j m, h2 j m⟩) (by dsimp only; omega) rfl
    rw [this]; omega
  · have := F3_C (b := b) (s := (0, 0, 0)) (t := (0, 0)) (z := 0) hp (fun j m => ⟨h.1 j m, h2 j m⟩) (.inl (Int.le_refl _)) rfl
    rw [this]; omega
theorem Cc_perm {a b : List Jc} (h : a.Perm b) : Cc a = Cc b := sum_perm (h.map _)
/-- by the sums of the middle: no sequence is sooner, where it is sure -/
theorem sure_least {js p q : List Jc} {b : Int} (hp : Pos3 js) (hb0 : 0 ≤ b) (h : Sure js b) (hq : q.Perm js) (hpp : p.Perm js) (hj : (p.map s2).Pairwise Jo) : Ms3 p ≤ Ms3 q := by
  have mv : ∀ {a : List Jc}, a.Perm js → Pos3 a ∧ Sure a b := fun {a} ha => ⟨fun j m => hp j (ha.mem_iff.mp m), fun j m => h.1 j (ha.mem_iff.mp m), by
    rcases h.2 with h2 | h2
    · exact .inl fun j m => h2 j (ha.mem_iff.mp m)
    · exact .inr fun j m => h2 j (ha.mem_iff.mp m)⟩
  have e1 := Ms3_s2 (mv hpp).1 hb0 (mv hpp).2
  have e2 := Ms3_s2 (mv hq).1 hb0 (mv hq).2
  have h1 := (johnson_best (s := (0, 0)) hj ((hq.trans hpp.symm).map s2)).2
  have h1 : Ms (p.map s2) ≤ Ms (q.map s2) := h1
  rw [e1, e2, Cc_perm hpp, Cc_perm hq] at h1
  omega
end Mi.K19
set_option Elab.async false
set_option linter.all false
set_option maxRecDepth 100000
set_option maxHeartbeats 1000000
namespace Mi.K19
open PySem PySem.Spec PyProof.Rows L2 Mi

/-! ### the checks -/
theorem z_is_tupleT {α : Type} {e : α → D} {l : List α} {a b : Int} : n_is_tuple (eT e l) a b = .ret (decide (a ≤ (l.length : Int)) && decide ((l.length : Int) ≤ b)) := by
  unfold n_is_tuple
  rw [isi_tT, T.ret_bind, if_tt, T.ret_bind, len_T, T.ret_bind]
  by_cases h : a ≤ (l.length : Int) <;> simp [h]
theorem z_is_tupleP {α β : Type} {e1 : α → D} {e2 : β → D} {p : α × β} : n_is_tuple (eP2 e1 e2 p) 2 2 = .ret true := by
  unfold n_is_tuple
  rw [isi_tP2, T.ret_bind, if_tt, T.ret_bind, len_P2, T.ret_bind]
  rfl
theorem z_is_integer {i a b : Int} : n_is_integer i a b = .ret (decide (a ≤ i) && decide (i ≤ b)) := by
  unfold n_is_integer n_is_whole
  rw [isi_iI, T.ret_bind, if_tt, isi_bI, T.ret_bind, T.ret_bind]
  rfl
theorem z_is_bool {a b : Bool} : n__law_is_bool a b = .ret (decide (a = b)) := by
  unfold n__law_is_bool
  rw [isi_bB, T.ret_bind, if_tt]
def JobOk (m : Nat) (l : List Int) : Prop := l.length = m ∧ ∀ x ∈ l, 0 ≤ x ∧ x ≤ 1000
theorem z_is_job {m : Nat} {l : List Int} (h : JobOk m l) : n_is_job m l = .ret true := by
  unfold n_is_job
  have e : mapT (fun one : Int => n_is_integer one 0 1000) l = .ret (l.map fun _ => true) := mapT_of fun x m => by
    have := h.2 x m
    rw [z_is_integer, decide_eq_true this.1, decide_eq_true this.2]; rfl
  rw [z_is_tupleT, T.ret_bind, h.1, e]
  simp
theorem z_check_jobs {m : Nat} {most : Int} {jobs : List (List Int)} (h1 : 1 ≤ jobs.length) (h2 : (jobs.length : Int) ≤ most) (h : ∀ j ∈ jobs, JobOk m j) : n_check_jobs jobs most m = .ret () := by
  unfold n_check_jobs
  have e : mapT (fun job : List Int => n_is_job m job) jobs = .ret (jobs.map fun _ => true) := mapT_of fun x mx => z_is_job (h x mx)
  rw [z_is_tupleT, e]
  have : (1 : Int) ≤ jobs.length := by omega
  simp [this, h2]
theorem perm_idx {n : Nat} {o : List Int} (h : o.Perm (idx n)) : o.length = n ∧ o.Nodup ∧ ∀ x ∈ o, 0 ≤ x ∧ x < n :=
  ⟨by rw [h.length_eq, len_idx], h.nodup_iff.mpr (nodup_idx n), fun x m => mem_idx.mp (h.mem_iff.mp m)⟩
theorem z_is_order {n : Nat} {o : List Int} (h : o.Perm (idx n)) (hn : n ≤ 1000) : n_is_order n o = .ret true := by
  obtain ⟨h1, h2, h3⟩ := perm_idx h
  unfold n_is_order
  have e : mapT (fun one : Int => n_is_integer one 0 ((n : Int) - 1)) o = .ret (o.map fun _ => true) := mapT_of fun x m => by
    have := h3 x m
    rw [z_is_integer, decide_eq_true this.1, decide_eq_true (by omega)]; rfl
  have e2 : dcT o = .ret (n : Int) := by
    unfold dcT
    rw [if_pos (by omega), ← dd_len (l := o) h2 fun _ => Iff.rfl, h1]
  rw [z_is_tupleT, e, e2, h1]
  simp
theorem z_check_order {n : Nat} {o : List Int} (h : o.Perm (idx n)) (hn : n ≤ 1000) : n_check_order n o = .ret () := by
  unfold n_check_order
  rw [z_is_order h hn]
  simp
/-! ### when each machine is done -/
def adv : Int → List Int → List Int → List Int
  | r, f :: fs, t :: ts => (max r f + t) :: adv (max r f + t) fs ts
  | _, fs, _ => fs
def advR : Int → List Int → List Int → Int
  | r, f :: fs, t :: ts => advR (max r f + t) fs ts
  | r, _, _ => r
theorem adv_len : ∀ (ts fs : List Int) (r : Int), (adv r fs ts).length = fs.length
  | [], [], r => rfl
  | [], _ :: _, r => rfl
  | _ :: _, [], r => rfl
  | t :: ts, f :: fs, r => by simp [adv, adv_len ts fs]
theorem inner_step {here : List Int} {r t : Int} {k : Nat} (h : k < here.length) : n_ends_of_2 (here, r) ((k : Int), t) = .ret (here.set k (max r here[k] + t), max r here[k] + t) := by
  unfold n_ends_of_2
  simp only [ixT_nat h, T.ret_bind, stT_nat h]
theorem inner : ∀ (ts fs pre : List Int) (r : Int), ts.length = fs.length → forT n_ends_of_2 (pre ++ fs, r) ((ts.zipIdx pre.length).map fun z => (((z.2 : Nat) : Int), z.1)) = .ret (pre ++ adv r fs ts, advR r fs ts)
  | [], [], pre, r, _ => rfl
  | [], _ :: _, pre, r, h => by simp at h
  | _ :: _, [], pre, r, h => by simp at h
  | t :: ts, f :: fs, pre, r, h => by
    rw [List.zipIdx_cons, List.map_cons]
    unfold forT
    dsimp only
    rw [inner_step (by simp), T.ret_bind]
    have e : (pre ++ f :: fs).set pre.length (max r ((pre ++ f :: fs)[pre.length]'(by simp)) + t) = (pre ++ [max r f + t]) ++ fs := by simp
    have e2 : (pre ++ f :: fs)[pre.length]'(by simp) = f := by simp
    rw [e, e2]
    have ih := inner ts fs (pre ++ [max r f + t]) (max r f + t) (by simpa using h)
    rw [List.length_append] at ih
    simp only [List.length_cons, List.length_nil, Nat.zero_add] at ih
    rw [ih]
    simp [adv, advR]
theorem inner0 {here job : List Int} (h : job.length = here.length) : forT n_ends_of_2 (here, 0) (enmL job) = .ret (adv 0 here job, advR 0 here job) := inner job here [] 0 h
def atL (jobs : List (List Int)) (i : Int) : List Int := jobs.getD i.toNat []
def runs : List (List Int) → List Int → List (List Int)
  | [], _ => []
  | j :: js, f => adv 0 f j :: runs js (adv 0 f j)
def outB (jobs : List (List Int)) (s : List (List Int) × List Int) (i : Int) : List (List Int) × List Int := (s.1 ++ [adv 0 s.2 (atL jobs i)], adv 0 s.2 (atL jobs i))
theorem out_fold (jobs : List (List Int)) : ∀ (o : List Int) (s : List (List Int) × List Int), (o.foldl (outB jobs) s).1 = s.1 ++ runs (o.map (atL jobs)) s.2
  | [], s => by simp [runs]
  | i :: o, s => by
    rw [List.foldl_cons, out_fold jobs o]
    simp [outB, runs]
theorem out_loop {m : Nat} {jobs : List (List Int)} {o here : List Int} {f : List (List Int) × List Int → Int → T (List (List Int) × List Int)} (hf : ∀ s i, f s i = n_ends_of_1 jobs s i) (hj : ∀ j ∈ jobs, j.length = m) (ho : ∀ i ∈ o, 0 ≤ i ∧ i < jobs.length) (hl : o.length ≤ 1000) (hh : here.length = m) : forT f ([], here) o = .ret (o.foldl (outB jobs) ([], here)) := by
  refine (forT_of (g := outB jobs) (fun pre s => s.1.length = pre.length ∧ s.2.length = m) (l := o) (pre := []) (fun p i q s e inv => ?_) ⟨rfl, hh⟩).1
  have e : o = p ++ i :: q := e
  have mi : i ∈ o := by rw [e]; simp
  have hp : p.length < o.length := by rw [e]; simp
  obtain ⟨i0, i1⟩ := ho i mi
  obtain ⟨k, rfl⟩ : ∃ k : Nat, i = k := ⟨i.toNat, by omega⟩
  have hk : k < jobs.length := by omega
  have ha : atL jobs (k : Int) = jobs[k] := by simp [atL, List.getD_eq_getElem?_getD, hk]
  have hjl : jobs[k].length = s.2.length := by rw [hj _ (List.getElem_mem hk), inv.2]
  obtain ⟨s1, s2⟩ := s
  dsimp only at inv hjl
  constructor
  · rw [hf]
    unfold n_ends_of_1
    simp only [T.ret_bind, ixT_nat hk, inner0 hjl, appT_of (show s1.length ≤ 1000000 by omega)]
    unfold outB
    rw [ha]
  · unfold outB
    dsimp only
    exact ⟨by simp [inv.1], by rw [adv_len, inv.2]⟩
section
variable {m : Nat} {jobs : List (List Int)} {o : List Int} (hn : jobs ≠ []) (hm : m ≤ 1000) (hj : ∀ j ∈ jobs, j.length = m) (ho : ∀ i ∈ o, 0 ≤ i ∧ i < jobs.length) (hl : o.length ≤ 1000)
include hj ho hl
theorem z_law_ends {b : List Int} (hb : b.length = m) : n__law_ends jobs o b = .ret (runs (o.map (atL jobs)) b) := by
  unfold n__law_ends
  simp only [T.ret_bind]
  rw [out_loop (f := n__law_ends_1 jobs) (fun _ _ => rfl) hj ho hl hb, T.ret_bind, out_fold]
  rfl
theorem z_law_ends1 {b : List Int} (hb : b.length = m) : n__law_ends__1 jobs o b = .ret (runs (o.map (atL jobs)) b) := by
  unfold n__law_ends__1
  simp only [T.ret_bind]
  rw [out_loop (f := n__law_ends__1_1 jobs) (fun _ _ => rfl) hj ho hl hb, T.ret_bind, out_fold]
  rfl
include hn hm
theorem z_ends_of : n_ends_of jobs o = .ret (runs (o.map (atL jobs)) (List.replicate m 0)) := by
  unfold n_ends_of
  have h0 : 0 < jobs.length := List.length_pos_iff.mpr hn
  have e := ixT_nat h0
  simp only [Int.natCast_zero] at e
  have hr : repLT [(0 : Int)] ((jobs[0].length : Nat) : Int) = .ret (List.replicate m 0) := by
    rw [hj _ (List.getElem_mem h0), repLT_of (by omega) (by simp; omega)]
    congr 1
    clear hm hj
    induction m with
    | zero => rfl
    | succ m ih => rw [List.replicate_succ, List.flatten_cons, ih, List.replicate_succ]; rfl
  simp only [T.ret_bind, e, hr]
  rw [out_loop (f := n_ends_of_1 jobs) (fun _ _ => rfl) hj ho hl (by simp), T.ret_bind, out_fold]
  rfl
end
end Mi.K19
set_option Elab.async false
set_option linter.all false
set_option maxRecDepth 100000
set_option maxHeartbeats 1000000
namespace Mi
open PySem PySem.Spec PyProof.Rows L2
theorem mapT_map {α β γ : Type} {f : β → T γ} {h : α → β} {k : α → γ} {l : List α} (q : ∀ z ∈ l, f (h z) = .ret (k z)) : mapT f (l.map h) = .ret (l.map k) := by
  induction l with
  | nil => rfl
  | cons x l ih =>
    rw [List.map_cons]
    unfold mapT
    rw [q x (by simp), T.ret_bind, ih fun z m => q z (by simp [m])]
    rfl
theorem enm_map {α β : Type} (f : α → β) (l : List α) : enmL (l.map f) = (enmL l).map fun z => (z.1, f z.2) := by
  unfold enmL
  rw [List.zipIdx_map, List.map_map, List.map_map]
  rfl
theorem p2_l2 {α : Type} (p : α × α) : p2T (l2P p) = .ret p := rfl
theorem p3_l3 {α : Type} (p : α × α × α) : p3T (l3P p) = .ret p := rfl
end Mi
namespace Mi.K19
open PySem PySem.Spec PyProof.Rows L2 Mi
def Ok2 (js : List Jb) : Prop := js ≠ [] ∧ js.length ≤ 20 ∧ ∀ j ∈ js, (0 ≤ j.1 ∧ j.1 ≤ 1000) ∧ 0 ≤ j.2 ∧ j.2 ≤ 1000
theorem Ok2.pos {js : List Jb} (h : Ok2 js) : Pos2 js := fun j m => ⟨(h.2.2 j m).1.1, (h.2.2 j m).2.1⟩
theorem ok_jobs {js : List Jb} (h : ∀ j ∈ js, (0 ≤ j.1 ∧ j.1 ≤ 1000) ∧ 0 ≤ j.2 ∧ j.2 ≤ 1000) : ∀ l ∈ js.map l2P, JobOk 2 l := fun l m => by
  obtain ⟨j, mj, rfl⟩ := List.mem_map.mp m
  have := h j mj
  exact ⟨rfl, fun x mx => by simp [l2P] at mx; omega⟩
theorem len_jobs {js : List Jb} : ∀ l ∈ js.map l2P, l.length = 2 := fun l m => by
  obtain ⟨j, mj, rfl⟩ := List.mem_map.mp m
  rfl
theorem atL_2 {js : List Jb} {i : Int} (h0 : 0 ≤ i) (h : i < js.length) : atL (js.map l2P) i = l2P (at2 js i) := by
  have : i.toNat < js.length := by omega
  simp [atL, at2, List.getD_eq_getElem?_getD, this]
def runs2 : List Jb → Int × Int → List (Int × Int)
  | [], _ => []
  | j :: js, s => stp s j :: runs2 js (stp s j)
theorem runs2_app : ∀ (a b : List Jb) (s : Int × Int), runs2 (a ++ b) s = runs2 a s ++ runs2 b (F s a)
  | [], b, s => rfl
  | j :: a, b, s => by simp [runs2, F_cons, runs2_app a b]
theorem runs2_last : ∀ {js : List Jb} {s : Int × Int} (h : runs2 js s ≠ []), (runs2 js s).getLast h = F s js
  | [], s, h => (h rfl).elim
  | [j], s, h => rfl
  | j :: k :: js, s, h => by
    have := runs2_last (js := k :: js) (s := stp s j) (by simp [runs2])
    show (stp s j :: runs2 (k :: js) (stp s j)).getLast _ = _
    rw [List.getLast_cons (by simp [runs2]), this]; rfl
theorem runs2_len : ∀ (js : List Jb) (s : Int × Int), (runs2 js s).length = js.length
  | [], _ => rfl
  | j :: js, s => by simp [runs2, runs2_len js]
theorem runs_2 : ∀ {js : List Jb} {s : Int × Int}, Pos2 js → 0 ≤ s.1 → runs (js.map l2P) (l2P s) = (runs2 js s).map l2P
  | [], s, _, _ => rfl
  | j :: js, s, hp, h => by
    have hj := hp j (by simp)
    have e : adv 0 (l2P s) (l2P j) = l2P (stp s j) := by
      unfold l2P stp
      simp only [adv]
      rw [Int.max_eq_right h, Int.max_comm]
    rw [List.map_cons]
    unfold runs
    rw [e, runs_2 (fun x m => hp x (by simp [m])) (by unfold stp; dsimp only; omega)]
    rfl
theorem at_pos {js : List Jb} (hp : Pos2 js) (o : List Int) : Pos2 (o.map (at2 js)) := fun j m => by
  obtain ⟨i, _, rfl⟩ := List.mem_map.mp m
  unfold at2
  rw [List.getD_eq_getElem?_getD]
  cases h : js[i.toNat]? with
  | none => simp
  | some x => simpa using hp x (List.mem_of_getElem? h)
section
variable {js : List Jb} {o : List Int} (hp : Pos2 js) (ho : ∀ i ∈ o, 0 ≤ i ∧ i < js.length) (hl : o.length ≤ 1000)
include hp ho hl
theorem at_map : o.map (atL (js.map l2P)) = (o.map (at2 js)).map l2P := by
  rw [List.map_map]
  exact List.map_congr_left fun i m => atL_2 (ho i m).1 (ho i m).2
theorem z_ends2 (hn : js ≠ []) : n_ends_of (js.map l2P) o = .ret ((runs2 (o.map (at2 js)) (0, 0)).map l2P) := by
  rw [z_ends_of (m := 2) (by simpa using hn) (by omega) len_jobs (by simpa using ho) hl, at_map hp ho hl, ← runs_2 (at_pos hp o) (Int.le_refl _)]
  rfl
theorem z_lends2 {s : Int × Int} (h : 0 ≤ s.1) : n__law_ends (js.map l2P) o (l2P s) = .ret ((runs2 (o.map (at2 js)) s).map l2P) := by
  rw [z_law_ends (m := 2) len_jobs (by simpa using ho) hl rfl, at_map hp ho hl, ← runs_2 (at_pos hp o) h]
theorem z_lends2' {s : Int × Int} (h : 0 ≤ s.1) : n__law_ends__1 (js.map l2P) o (l2P s) = .ret ((runs2 (o.map (at2 js)) s).map l2P) := by
  rw [z_law_ends1 (m := 2) len_jobs (by simpa using ho) hl rfl, at_map hp ho hl, ← runs_2 (at_pos hp o) h]
end
theorem last2 {js : List Jb} {s : Int × Int} (h : js ≠ []) : ixT ((runs2 js s).map l2P) (-1) = .ret (l2P (F s js)) := by
  have hr : runs2 js s ≠ [] := by cases js with | nil => exact (h rfl).elim | cons j js => simp [runs2]
  rw [ixT_m1 (by simpa using hr), List.getLast_map, runs2_last hr]
theorem ix1 (p : Int × Int) : ixT (l2P p) 1 = .ret p.2 := rfl
theorem ix0 (p : Int × Int) : ixT (l2P p) 0 = .ret p.1 := rfl
theorem z_johnson (js : List Jb) (hl : js.length ≤ 1000) : n_johnson (js.map l2P) = .ret (ordJ cP js) := by
  unfold n_johnson
  have e : mapT (P2T (fun x => T.ret (id x)) p2T) (enmL (js.map l2P)) = .ret (enmL js) := by
    rw [enm_map, mapT_map (k := id) fun z _ => ?_, List.map_id]
    unfold P2T
    rw [T.ret_bind, p2_l2]; rfl
  have hf : (fun z : Int × Int × Int => decide (z.2.2 < z.2.1)) = fun z => !cP z.2 := by
    funext z; unfold cP
    by_cases h : z.2.2 < z.2.1
    · rw [decide_eq_true h, decide_eq_false (by omega)]; rfl
    · rw [decide_eq_false h, decide_eq_true (by omega)]; rfl
  have l1 : (firstJ cP js).length + (lastJ cP js).length = js.length := by
    have := (ordJ_perm cP js).length_eq
    rw [len_idx] at this
    unfold ordJ at this
    simpa using this
  simp only [e, T.ret_bind, T.bind_bind, hf]
  show ((fewT (firstJ cP js ++ (lastJ cP js ++ []))).bind _) = _
  rw [List.append_nil, fewT_of (by simp; omega), T.ret_bind]
  rfl
theorem z_law_best {js : List Jb} (h : Ok2 js) : n__law_best (js.map l2P) = .ret (best js) := by
  unfold n__law_best
  have e : mapT (P2T (fun x => T.ret (id x)) p2T) (enmL (js.map l2P)) = .ret (enmL js) := by
    rw [enm_map, mapT_map (k := id) fun z _ => ?_, List.map_id]
    unfold P2T
    rw [T.ret_bind, p2_l2]; rfl
  have hf : (fun z : Int × Int × Int => decide (z.2.2 ≤ z.2.1)) = fun z => !cL z.2 := by
    funext z; unfold cL
    by_cases h : z.2.2 ≤ z.2.1
    · rw [decide_eq_true h, decide_eq_false (by omega)]; rfl
    · rw [decide_eq_false h, decide_eq_true (by omega)]; rfl
  have l1 : (firstJ cL js).length + (lastJ cL js).length = js.length := by
    have := (ordJ_perm cL js).length_eq
    rw [len_idx] at this
    unfold ordJ at this
    simpa using this
  have hl := h.2.1
  obtain ⟨q1, q2, q3⟩ := perm_idx (ordJ_perm cL js)
  simp only [e, T.ret_bind, T.bind_bind, hf]
  show (catT (firstJ cL js) (lastJ cL js)).bind _ = _
  rw [catT_of (by omega)]
  simp only [T.ret_bind, T.bind_bind]
  show (n__law_ends (js.map l2P) (ordJ cL js) (l2P (0, 0))).bind _ = _
  rw [z_lends2 h.pos q3 (by omega) (Int.le_refl _), T.ret_bind, last2 (by
    intro e
    have := congrArg List.length e
    simp [q1] at this
    exact h.1 this), T.ret_bind, ix1]
  exact congrArg T.ret (best_L js)
theorem ne_map {js : List Jb} {o : List Int} (h : js ≠ []) (ho : o.Perm (idx js.length)) : o.map (at2 js) ≠ [] := by
  intro e
  have := congrArg List.length e
  have q := (perm_idx ho).1
  simp [q] at this
  exact h this
theorem z_end {js : List Jb} {o : List Int} (h : Ok2 js) (ho : o.Perm (idx js.length)) : ((n_ends_of (js.map l2P) o).bind fun v => ixT v (-1)).bind (fun v => ixT v 1) = .ret (Mo js o) := by
  obtain ⟨q1, q2, q3⟩ := perm_idx ho
  have := h.2.1
  rw [z_ends2 h.pos q3 (by omega) h.1, T.ret_bind, last2 (ne_map h.1 ho), T.ret_bind, ix1]
  rfl
theorem z_soonest {js : List Jb} (h : Ok2 js) : n_soonest (js.map l2P) = .ret (best js, ordJ cP js) := by
  unfold n_soonest
  have hl := h.2.1
  have h0 := List.length_pos_iff.mpr h.1
  rw [show (2 : Int) = ((2 : Nat) : Int) from rfl, z_check_jobs (m := 2) (by simp; omega) (by simp; omega) (ok_jobs h.2.2), T.ret_bind, z_johnson js (by omega), T.ret_bind, z_end h (ordJ_perm cP js)]
  rfl
theorem z_shows {js : List Jb} (h : Ok2 js) {o : List Int} (ho : o.Perm (idx js.length)) (n : Int) : n_shows_soonest (js.map l2P) (n, o) = .ret (decide (n = best js) && decide (Mo js o = best js)) := by
  unfold n_shows_soonest
  have hl := h.2.1
  rw [z_soonest h]
  simp only [T.ret_bind, List.length_map]
  rw [z_is_tupleP, z_is_order ho (by omega), z_is_integer]
  simp only [T.ret_bind, Bool.not_true, if_ff]
  by_cases e : n = best js
  · subst e
    simp only [Int.le_refl, decide_true, Bool.and_self, Bool.not_true, if_ff, Bool.true_and]
    have := z_end h ho
    rw [this, T.ret_bind]
  · have : (decide (best js ≤ n) && decide (n ≤ best js)) = false := by
      rw [Bool.and_eq_false_iff]
      by_cases c : best js ≤ n
      · right; exact decide_eq_false (by omega)
      · left; exact decide_eq_false c
    rw [this]
    simp [e]
end Mi.K19
set_option Elab.async false
set_option linter.all false
set_option maxRecDepth 100000
set_option maxHeartbeats 1000000
namespace Mi
open PySem PySem.Spec PyProof.Rows L2
section
variable {α β : Type}
/-! ### repr has room -/
theorem rep_I {i : Int} (h : i.natAbs < 100000000000000000000) : repOk (eI i) = true := by
  unfold repOk
  simp [okSh, shC, dpD, h]
theorem rep_B {b : Bool} : repOk (eB b) = true := rfl
def SmallE (e : α → D) (P : α → Prop) (B C : Nat) : Prop := ∀ x, P x → okSh (e x) = true ∧ shC (e x) ≤ B ∧ dpD (e x) ≤ C
theorem sm_I : SmallE eI (fun i => i.natAbs < 100000000000000000000) 22 0 := fun x h => ⟨by simp [okSh, h], by simp [shC], by simp [dpD]⟩
theorem sm_list {e : α → D} {P : α → Prop} {B C : Nat} (h : SmallE e P B C) : ∀ l : List α, (∀ x ∈ l, P x) → okShs (l.map e) = true ∧ shCs (l.map e) ≤ (B + 2) * l.length ∧ dpDs (l.map e) ≤ C
  | [], _ => ⟨rfl, by simp [shCs], by simp [dpDs]⟩
  | x :: l, q => by
    obtain ⟨a, b, c⟩ := sm_list h l fun y m => q y (by simp [m])
    obtain ⟨a1, b1, c1⟩ := h x (q x (by simp))
    refine ⟨by simp [okShs, a, a1], ?_, ?_⟩
    · simp only [List.map_cons, shCs, List.length_cons, Nat.mul_succ]; omega
    · simp only [List.map_cons, dpDs]; exact Nat.max_le.mpr ⟨c1, c⟩
theorem sm_T {e : α → D} {P : α → Prop} {B C : Nat} (n : Nat) (h : SmallE e P B C) : SmallE (eT e) (fun l => l.length ≤ n ∧ ∀ x ∈ l, P x) ((B + 2) * n + 2) (C + 1) := fun l q => by
  obtain ⟨a, b, c⟩ := sm_list h l q.2
  have : (B + 2) * l.length ≤ (B + 2) * n := Nat.mul_le_mul_left _ q.1
  refine ⟨by unfold eT okSh; exact a, ?_, ?_⟩
  · unfold eT shC; omega
  · unfold eT dpD; omega
theorem sm_P2 {e1 : α → D} {e2 : β → D} {P1 : α → Prop} {P2 : β → Prop} {B1 B2 C1 C2 : Nat} (h1 : SmallE e1 P1 B1 C1) (h2 : SmallE e2 P2 B2 C2) : SmallE (eP2 e1 e2) (fun p => P1 p.1 ∧ P2 p.2) (B1 + B2 + 6) (max C1 C2 + 1) := fun p q => by
  obtain ⟨a1, b1, c1⟩ := h1 p.1 q.1
  obtain ⟨a2, b2, c2⟩ := h2 p.2 q.2
  refine ⟨by simp [eP2, okSh, okShs, a1, a2], ?_, ?_⟩
  · simp only [eP2, shC, shCs]; omega
  · simp only [eP2, dpD, dpDs]; omega
theorem SmallE.ok {e : α → D} {P : α → Prop} {B C : Nat} (h : SmallE e P B C) (hB : B ≤ 16777000) (hC : C ≤ 30) {x : α} (q : P x) : repOk (e x) = true := by
  obtain ⟨a, b, c⟩ := h x q
  unfold repOk
  rw [a, decide_eq_true (by omega), decide_eq_true (by omega)]; rfl
/-! ### so many of a pool -/
theorem erase_permE : ∀ (l : List α) {i : Nat} (h : i < l.length), (l[i] :: l.eraseIdx i).Perm l
  | x :: l, 0, h => .refl _
  | x :: l, i + 1, h => by
    have := erase_permE l (i := i) (by simpa using h)
    simp only [List.getElem_cons_succ, List.eraseIdx_cons_succ]
    exact (List.Perm.swap x _ _).trans ((List.perm_cons x).mpr this)
theorem set_permE : ∀ (l : List α) {i : Nat} (h : i < l.length) (x : α), (x :: l).Perm (l[i] :: l.set i x)
  | y :: l, 0, h, x => List.Perm.swap y x l
  | y :: l, i + 1, h, x => by
    have := set_permE l (i := i) (by simpa using h) x
    simp only [List.getElem_cons_succ, List.set_cons_succ]
    exact (List.Perm.swap y x l).trans (((List.perm_cons y).mpr this).trans (List.Perm.swap _ y _))
theorem swap_permE (l : List α) {i j : Nat} (hi : i < l.length) (hj : j < l.length) : ((l.set i l[j]).set j l[i]).Perm l := by
  have h1 := set_permE l hi l[j]
  have h2 := set_permE (l.set i l[j]) (i := j) (by simpa using hj) l[i]
  have e : (l.set i l[j])[j]'(by simpa using hj) = l[j] := by
    rw [List.getElem_set]; split <;> simp_all
  rw [e] at h2
  exact ((List.perm_cons _).mp (h1.trans h2)).symm
end
end Mi
set_option Elab.async false
set_option linter.all false
set_option maxRecDepth 100000
set_option maxHeartbeats 1000000
namespace Mi.K19
open PySem PySem.Spec PyProof.Rows L2 Mi

theorem z_some {α : Type} {e : α → D} {xs : List α} {k : Nat} (hk : k ≤ xs.length) (hx : xs.length ≤ 1000) : (n__law_some e () xs k).lim k fun ys => ∃ rest, (ys ++ rest).Perm xs ∧ ys.length = k := by
  unfold n__law_some
  simp -implicitDefEqProofs only [T.ret_bind]
  rw [rngT_nat (by omega), T.ret_bind]
  have := forT_lim (f := n__law_some_1 e ()) (n := 1) (fun pre (s : List α × List α) => (s.1 ++ s.2).Perm xs ∧ s.1.length = pre.length) (l := (List.range k).map fun i : Nat => (i : Int)) (pre := []) (s := ([], xs)) (fun p x q s hpq inv => by
    obtain ⟨fs, rs⟩ := s
    obtain ⟨i1, i2⟩ := inv
    dsimp only at i1 i2
    have hl := i1.length_eq
    rw [List.length_append] at hl
    have hp : p.length < k := by
      have := congrArg List.length hpq
      simp at this; omega
    unfold n__law_some_1
    simp -implicitDefEqProofs only [T.ret_bind, T.bind_bind]
    refine draw_then (by omega) (by omega) (by omega) fun d hd => ?_
    rw [popT_nat (by omega) (by omega), T.ret_bind, appT_of (by omega), T.ret_bind, T.lim_ret]
    dsimp only
    refine ⟨?_, by simp [i2]⟩
    rw [List.append_assoc]
    exact (List.Perm.append_left fs (erase_permE rs (by omega))).trans i1) ⟨List.Perm.refl _, rfl⟩
  refine T.lim_then this (by simp) fun s q => ?_
  rw [T.lim_ret]
  exact ⟨s.2, q.1, by rw [q.2]; simp⟩
theorem z_all {n : Nat} (hn : n ≤ 1000) : (n__law_some eI () (idx n) n).lim n fun ys => ys.Perm (idx n) := by
  refine T.lim_mono (fun ys h => ?_) (Nat.le_refl _) (z_some (by rw [len_idx]; exact Nat.le_refl _) (by rw [len_idx]; exact hn))
  obtain ⟨rest, h1, h2⟩ := h
  have := h1.length_eq
  rw [List.length_append, len_idx] at this
  have : rest = [] := List.length_eq_zero_iff.mp (by omega)
  subst this
  simpa using h1
/-! ### two shifts -/
theorem at2_app0 {js ks : List Jb} {i : Int} (h0 : 0 ≤ i) (h : i < js.length) : at2 (js ++ ks) i = at2 js i := by
  have : i.toNat < js.length := by omega
  simp [at2, List.getD_eq_getElem?_getD, List.getElem?_append_left this]
theorem at2_app1 {js ks : List Jb} {i : Int} (h0 : 0 ≤ i) : at2 (js ++ ks) ((js.length : Int) + i) = at2 ks i := by
  have : ((js.length : Int) + i).toNat = js.length + i.toNat := by omega
  simp [at2, List.getD_eq_getElem?_getD, this, List.getElem?_append_right]
theorem order_perm {n m : Nat} {r0 r1 : List Int} (h0 : r0.Perm (idx n)) (h1 : r1.Perm (idx m)) : (r0 ++ r1.map fun i => (n : Int) + i).Perm (idx (n + m)) := by
  refine (h0.append (h1.map _)).trans ?_
  unfold idx
  rw [List.range_add, List.map_append, List.map_map, List.map_map]
  exact .of_eq (congrArg _ (List.map_congr_left fun i _ => by simp))
theorem order_map {js ks : List Jb} {r0 r1 : List Int} (h0 : r0.Perm (idx js.length)) (h1 : r1.Perm (idx ks.length)) : (r0 ++ r1.map fun i => (js.length : Int) + i).map (at2 (js ++ ks)) = r0.map (at2 js) ++ r1.map (at2 ks) := by
  rw [List.map_append, List.map_map]
  congr 1
  · exact List.map_congr_left fun i m => at2_app0 ((perm_idx h0).2.2 i m).1 ((perm_idx h0).2.2 i m).2
  · exact List.map_congr_left fun i m => at2_app1 ((perm_idx h1).2.2 i m).1
theorem runs2_small : ∀ {js : List Jb} {s : Int × Int} {B : Int}, (∀ j ∈ js, (0 ≤ j.1 ∧ j.1 ≤ 1000) ∧ 0 ≤ j.2 ∧ j.2 ≤ 1000) → 0 ≤ s.1 ∧ s.1 ≤ B → 0 ≤ s.2 ∧ s.2 ≤ B → ∀ t ∈ runs2 js s, (0 ≤ t.1 ∧ t.1 ≤ B + 2000 * js.length) ∧ 0 ≤ t.2 ∧ t.2 ≤ B + 2000 * js.length
  | [], s, B, _, _, _, t, m => by simp [runs2] at m
  | j :: js, s, B, h, h1, h2, t, m => by
    have hj := h j (by simp)
    have hs : (0 ≤ (stp s j).1 ∧ (stp s j).1 ≤ B + 2000) ∧ 0 ≤ (stp s j).2 ∧ (stp s j).2 ≤ B + 2000 := by
      unfold stp; dsimp only; omega
    rcases List.mem_cons.mp m with rfl | m
    · simp only [List.length_cons]; omega
    · have := runs2_small (fun x mx => h x (by simp [mx])) hs.1 hs.2 t m
      simp only [List.length_cons]; omega
theorem rep_rows2 {js : List Jb} (hl : js.length ≤ 1000) (h : ∀ j ∈ js, (0 ≤ j.1 ∧ j.1 ≤ 1000) ∧ 0 ≤ j.2 ∧ j.2 ≤ 1000) : repOk (eT (eT eI) ((runs2 js (0, 0)).map l2P)) = true := by
  refine (sm_T 1000 (sm_T 2 sm_I)).ok (by decide) (by decide) ⟨by simp [runs2_len]; exact hl, fun r m => ?_⟩
  obtain ⟨t, mt, rfl⟩ := List.mem_map.mp m
  have := runs2_small (B := 0) h (by simp) (by simp) t mt
  refine ⟨Nat.le_refl _, fun x mx => ?_⟩
  simp [l2P] at mx
  omega
theorem at_ok {js : List Jb} (h : ∀ j ∈ js, (0 ≤ j.1 ∧ j.1 ≤ 1000) ∧ 0 ≤ j.2 ∧ j.2 ≤ 1000) (o : List Int) : ∀ j ∈ o.map (at2 js), (0 ≤ j.1 ∧ j.1 ≤ 1000) ∧ 0 ≤ j.2 ∧ j.2 ≤ 1000 := fun j m => by
  obtain ⟨i, _, rfl⟩ := List.mem_map.mp m
  unfold at2
  rw [List.getD_eq_getElem?_getD]
  cases e : js[i.toNat]? with
  | none => simp
  | some x => simpa using h x (List.mem_of_getElem? e)
theorem Mo_small {js : List Jb} {o : List Int} (h : Ok2 js) (ho : o.Perm (idx js.length)) : 0 ≤ Mo js o ∧ Mo js o ≤ 40000 := by
  have hn := ne_map h.1 ho
  have hr : runs2 (o.map (at2 js)) (0, 0) ≠ [] := by
    intro e
    have := congrArg List.length e
    rw [runs2_len] at this
    exact hn (List.length_eq_zero_iff.mp this)
  have := runs2_small (B := 0) (at_ok h.2.2 o) (s := (0, 0)) (by simp) (by simp) _ (List.getLast_mem hr)
  rw [runs2_last hr] at this
  have hl := (perm_idx ho).1
  have := h.2.1
  unfold Mo Ms
  simp at *
  omega
theorem best_small {js : List Jb} (h : Ok2 js) : 0 ≤ best js ∧ best js ≤ 40000 := Mo_small h (ordJ_perm cP js)
theorem z_ends {js : List Jb} {o : List Int} (h : Ok2 js) (ho : o.Perm (idx js.length)) : n_ends (js.map l2P) o = .ret ((runs2 (o.map (at2 js)) (0, 0)).map l2P) := by
  obtain ⟨q1, q2, q3⟩ := perm_idx ho
  have hl := h.2.1
  have h0 := List.length_pos_iff.mpr h.1
  unfold n_ends
  rw [show (2 : Int) = ((2 : Nat) : Int) from rfl, z_check_jobs (m := 2) (by simp; omega) (by simp; omega) (ok_jobs h.2.2), T.ret_bind, List.length_map, z_check_order ho (by omega), T.ret_bind, z_ends2 h.pos q3 (by omega) h.1]
theorem z_waits {js : List Jb} {o : List Int} (h : Ok2 js) (ho : o.Perm (idx js.length)) : n_waits (js.map l2P) o = .ret (Mo js o - Bb js) := by
  unfold n_waits
  have e : mapT p2T (js.map l2P) = .ret js := by
    rw [mapT_map (k := id) fun z _ => p2_l2 z, List.map_id]
  rw [z_ends h ho]
  simp only [T.ret_bind, T.bind_bind, e]
  rw [last2 (ne_map h.1 ho), T.ret_bind, ix1, T.ret_bind]
  rfl
theorem ok_app {js ks : List Jb} (h : Ok2 js) (g : Ok2 ks) (hl : js.length ≤ 10) (gl : ks.length ≤ 10) : Ok2 (js ++ ks) :=
  ⟨by simp [h.1], by simp; omega, fun j m => by
    rcases List.mem_append.mp m with m | m
    · exact h.2.2 j m
    · exact g.2.2 j m⟩
theorem ok_sw {js : List Jb} (h : Ok2 js) : Ok2 (js.map sw) :=
  ⟨by simpa using h.1, by simpa using h.2.1, fun j m => by
    obtain ⟨x, mx, rfl⟩ := List.mem_map.mp m
    have := h.2.2 x mx
    exact ⟨this.2, this.1⟩⟩
theorem Mo_rev {js : List Jb} {o : List Int} (h : Ok2 js) (ho : o.Perm (idx js.length)) : Mo (js.map sw) o.reverse = Mo js o := by
  unfold Mo
  have e : o.reverse.map (at2 (js.map sw)) = ((o.map (at2 js)).reverse).map sw := by
    rw [← List.map_reverse, List.map_map]
    refine List.map_congr_left fun i _ => ?_
    unfold at2
    simp only [Function.comp, List.getD_eq_getElem?_getD, List.getElem?_map]
    cases js[i.toNat]? <;> rfl
  rw [e]
  exact rev_eq (at_pos h.pos o)
theorem min_ex (l : List Int) (h : l ≠ []) : ∃ c, minT ltI l = .ret c ∧ ∀ x ∈ l, c ≤ x := by
  obtain ⟨m, e, _, q⟩ := minI_of h
  exact ⟨m, e, q⟩
/-- each shift by itself -/
theorem z_part {J ks rest : List Jb} {alone : List Int} {x : Int} {a b : List (List Int)} (h : Ok2 J) (g : Ok2 ks) (hp : J.Perm (ks ++ rest)) (hx : ixT alone x = .ret (best ks)) (ha : a = ks.map l2P) : n__law_are_shifts_right_1 (J.map l2P) (best J) alone () (x, a, b) = .ret (.nx ()) := by
  subst ha
  unfold n__law_are_shifts_right_1
  have e : mapT p2T (J.map l2P) = .ret J := by
    rw [mapT_map (k := id) fun z _ => p2_l2 z, List.map_id]
  obtain ⟨c, hc, mc⟩ := min_ex (J.map (·.2)) (by simpa using h.1)
  obtain ⟨d, hd, md⟩ := min_ex (J.map (·.1)) (by simpa using h.1)
  have b1 := best_part h.pos hp
  have b2 := best_lowA h.pos h.1 fun j m => mc _ (List.mem_map_of_mem m)
  have b3 := best_lowB h.pos h.1 fun j m => md _ (List.mem_map_of_mem m)
  have e2 : ¬ best J < best ks := by omega
  have e3 : ¬ best J < (J.map (·.1)).sum + c := by unfold Aa at b2; omega
  have e4 : ¬ best J < (J.map (·.2)).sum + d := by unfold Bb at b3; omega
  simp only [T.ret_bind, T.bind_bind, e, hx, z_law_best g, hc, hd, decide_true, Bool.not_true, if_ff, decide_eq_false e2, decide_eq_false e3, decide_eq_false e4]
theorem z_three {J : List Jb} {o : List Int} (h : Ok2 J) (ho : o.Perm (idx J.length)) : n__law_are_shifts_right_2 (J.map l2P) (best J) () o = .ret (.nx ()) := by
  unfold n__law_are_shifts_right_2
  obtain ⟨q1, q2, q3⟩ := perm_idx ho
  have hl := h.2.1
  have e : n__law_ends__1 (J.map l2P) o [0, 0] = .ret ((runs2 (o.map (at2 J)) (0, 0)).map l2P) := z_lends2' (s := (0, 0)) h.pos q3 (by omega) (Int.le_refl _)
  have lb := best_le ho
  have e2 : ¬ Mo J o < best J := by omega
  have st : ∀ n : Int, n__law_are_shifts_right_3 (J.map l2P) (best J) (Mo J o) o () n = .ret (.nx ()) := fun n => by
    unfold n__law_are_shifts_right_3
    have : (decide (n = best J) && decide (Mo J o = best J)) = (decide (n = Mo J o) && decide (Mo J o = best J)) := by
      by_cases c : Mo J o = best J
      · rw [c]
      · simp [c]
    simp only [T.ret_bind, T.bind_bind, z_shows h ho, z_is_bool, this, decide_true, Bool.not_true, if_ff]
  simp only [T.ret_bind, T.bind_bind, e]
  rw [last2 (ne_map h.1 ho), T.ret_bind, ix1, T.ret_bind]
  rw [show (F (0, 0) (o.map (at2 J))).2 = Mo J o from rfl]
  rw [decide_eq_false e2, if_ff]
  simp only [forC, st, T.ret_bind, Ctl.loop]
  rfl
end Mi.K19
set_option Elab.async false
set_option linter.all false
set_option maxRecDepth 100000
set_option maxHeartbeats 2000000
namespace Mi.K19
open PySem PySem.Spec PyProof.Rows L2 Mi

theorem z_row {js : List Jb} (hl : js.length ≤ 10) : ((rngT 0 ((js.map l2P).length : Int)).bind fun a => (n__law_some eI () a ((js.map l2P).length : Int)).bind fun l10 => T.ret (l10.map fun at_ => at_)).lim 10 fun r => r.Perm (idx js.length) := by
  rw [List.length_map, rngT_nat (by omega), T.ret_bind]
  refine T.lim_then (z_all (n := js.length) (by omega)) hl fun ys h => ?_
  rw [T.lim_ret, show ys.map (fun at_ => at_) = ys from List.map_id ys]
  exact h
theorem ix_two {α : Type} (a b : α) : ixT [a, b] 0 = .ret a ∧ ixT [a, b] 1 = .ret b := ⟨rfl, rfl⟩
theorem rep_sub {x : Int} (h : x.natAbs ≤ 1000000) : repOk (eI x) = true := rep_I (by omega)
theorem sum_le {js : List Jb} (h : ∀ j ∈ js, (0 ≤ j.1 ∧ j.1 ≤ 1000) ∧ 0 ≤ j.2 ∧ j.2 ≤ 1000) : 0 ≤ Bb js ∧ Bb js ≤ 1000 * js.length := by
  induction js with
  | nil => simp [Bb]
  | cons j js ih =>
    have := ih fun x m => h x (by simp [m])
    have := h j (by simp)
    rw [Bb_cons]; simp only [List.length_cons]; omega
theorem z_rows {js ks : List Jb} (hl : js.length ≤ 10) (gl : ks.length ≤ 10) : (mapT (fun part_ : List (List Int) => (rngT 0 (part_.length : Int)).bind fun a => (n__law_some eI () a (part_.length : Int)).bind fun l10 => T.ret (l10.map fun at_ => at_)) [js.map l2P, ks.map l2P]).lim 20 fun rows => ∃ r0 r1, rows = [r0, r1] ∧ r0.Perm (idx js.length) ∧ r1.Perm (idx ks.length) := by
  unfold mapT
  refine T.lim_then (z_row hl) (by omega) fun r0 p0 => ?_
  unfold mapT
  rw [T.bind_bind]
  refine T.lim_then (z_row gl) (by omega) fun r1 p1 => ?_
  unfold mapT
  rw [T.ret_bind, T.ret_bind, T.lim_ret]
  exact ⟨r0, r1, rfl, p0, p1⟩
theorem at_perm {js : List Jb} (o : List Int) : (o.map (at2 js)).length = o.length := List.length_map _
theorem z_shifts {js ks : List Jb} (h : Ok2 js) (g : Ok2 ks) (hl : js.length ≤ 10) (gl : ks.length ≤ 10) : (n__law_are_shifts_right () (js.map l2P) (ks.map l2P)).lim 60 fun b => b = true := by
  have hJ : Ok2 (js ++ ks) := ok_app h g hl gl
  have hn : (js ++ ks).length = js.length + ks.length := List.length_append
  unfold n__law_are_shifts_right
  simp -implicitDefEqProofs only [T.ret_bind, T.bind_bind]
  rw [catT_of (by simp; omega), T.ret_bind, ← List.map_append]
  refine T.lim_then (z_rows hl gl) (by omega) fun rows hrows => ?_
  obtain ⟨r0, r1, rfl, p0, p1⟩ := hrows
  obtain ⟨a0, a1, a2⟩ := perm_idx p0
  obtain ⟨b0, b1, b2⟩ := perm_idx p1
  have hor := order_perm p0 p1
  have hom := order_map (js := js) (ks := ks) p0 p1
  rw [(ix_two r0 r1).1, (ix_two r0 r1).2]
  simp -implicitDefEqProofs only [T.ret_bind]
  rw [catT_of (by simp; omega), T.ret_bind, List.length_map]
  rw [show ([0, 0] : List Int) = l2P (0, 0) from rfl, z_lends2 h.pos a2 (by omega) (Int.le_refl _), T.ret_bind]
  rw [last2 (ne_map h.1 p0), T.ret_bind]
  have f0 : 0 ≤ (F (0, 0) (r0.map (at2 js))).1 := by
    rw [F_1]
    have := Aa_nonneg (at_pos h.pos r0)
    dsimp only; omega
  rw [z_lends2 g.pos b2 (by omega) f0, T.ret_bind, catT_of (by simp [runs2_len]; omega), T.ret_bind, ← List.map_append, ← runs2_app, ← hom]
  have hlen : (ks.map l2P).length = ks.length := List.length_map _
  rw [← hn] at hor
  rw [hlen]
  generalize (r0 ++ r1.map fun at_ => (js.length : Int) + at_) = o at hor
  have lo := (perm_idx hor).1
  have hJ20 := hJ.2.1
  have E1 := z_ends hJ hor
  have R1 : repOk (eT (eT eI) ((runs2 (o.map (at2 (js ++ ks))) (0, 0)).map l2P)) = true := rep_rows2 (by rw [List.length_map]; omega) (at_ok hJ.2.2 o)
  have E2 := z_ends h p0
  have R2 : repOk (eT (eT eI) ((runs2 (r0.map (at2 js)) (0, 0)).map l2P)) = true := rep_rows2 (by rw [List.length_map]; omega) (at_ok h.2.2 r0)
  have E3 := z_waits hJ hor
  have m1 := Mo_small hJ hor
  have m2 := sum_le hJ.2.2
  have m3 := best_small hJ
  have R3 : repOk (eI (Mo (js ++ ks) o - Bb (js ++ ks))) = true := rep_sub (by omega)
  have R4 : repOk (eI (best (js ++ ks))) = true := rep_sub (by omega)
  have E4 : ixT ((runs2 (o.map (at2 (js ++ ks))) (0, 0)).map l2P) (-1) = .ret (l2P (F (0, 0) (o.map (at2 (js ++ ks))))) := last2 (ne_map hJ.1 hor)
  have E5 : mapT p2T ((js ++ ks).map l2P) = .ret (js ++ ks) := by
    rw [mapT_map (k := id) fun z _ => p2_l2 z, List.map_id]
  have E6 := z_soonest hJ
  have E7 := z_law_best hJ
  have E8 := z_shows hJ (ordJ_perm cP (js ++ ks)) (best (js ++ ks))
  have E8' : (decide (best (js ++ ks) = best (js ++ ks)) && decide (Mo (js ++ ks) (ordJ cP (js ++ ks)) = best (js ++ ks))) = true := by
    rw [decide_eq_true rfl, decide_eq_true (show Mo (js ++ ks) (ordJ cP (js ++ ks)) = best (js ++ ks) from rfl)]; rfl
  rw [E8'] at E8
  have eM : (F (0, 0) (o.map (at2 (js ++ ks)))).2 = Mo (js ++ ks) o := rfl
  have eB : ((js ++ ks).map fun z => z.2).sum = Bb (js ++ ks) := rfl
  have E9 : mapT (fun part_ : List (List Int) => (n_soonest part_).bind fun v68 => T.ret v68.1) [js.map l2P, ks.map l2P] = .ret [best js, best ks] := by
    simp -implicitDefEqProofs only [mapT, z_soonest h, z_soonest g, T.ret_bind]
  have L1 : forC (τ := Unit) (n__law_are_shifts_right_1 ((js ++ ks).map l2P) (best (js ++ ks)) [best js, best ks]) () [((0 : Int), js.map l2P, ks.map l2P), ((1 : Int), ks.map l2P, js.map l2P)] = .ret (.nx ()) := by
    have q1 := z_part (x := 0) (a := js.map l2P) (b := ks.map l2P) hJ h (List.Perm.refl (js ++ ks)) (ix_two (best js) (best ks)).1 rfl
    have q2 := z_part (x := 1) (a := ks.map l2P) (b := js.map l2P) hJ g List.perm_append_comm (ix_two (best js) (best ks)).2 rfl
    simp -implicitDefEqProofs only [forC, q1, q2, T.ret_bind, Ctl.loop]
  simp -implicitDefEqProofs only [E1, if_pos R1, rep_not R1, T.ret_bind, if_ff, E2, if_pos R2, rep_not R2, E3, if_pos R3, E4, ix1, E5, eM, eB, rep_not R3, E6, E7, if_pos R4, rep_not R4, E8, E9, L1, Ctl.t, (ix_two (best js) (best ks)).1, (ix_two (best js) (best ks)).2]
  have b1 := best_app h.pos g.pos
  rw [show (!true == true) = false from rfl, if_ff, decide_eq_false (show ¬ best js + best ks < best (js ++ ks) by omega), if_ff]
  have e0 : (js.length : Int) + (ks.length : Int) = ((js ++ ks).length : Nat) := by rw [hn]; push_cast; rfl
  rw [e0]
  have hnn : (js ++ ks).length ≤ 20 := hJ.2.1
  have hn0 : 0 < (js ++ ks).length := List.length_pos_iff.mpr hJ.1
  rw [rngT_nat (by omega), T.ret_bind]
  refine T.lim_then (z_all (n := (js ++ ks).length) (by omega)) (by omega) fun mx pm => ?_
  refine draw_then (by omega) (by omega) (by omega) fun x hx => draw_then (by omega) (by omega) (by omega) fun y hy => ?_
  have po := ordJ_perm cP (js ++ ks)
  obtain ⟨l1, _, _⟩ := perm_idx po
  generalize ordJ cP (js ++ ks) = oj at po l1
  rw [ixT_nat (show y < oj.length by omega), T.ret_bind, ixT_nat (show x < oj.length by omega), T.ret_bind, stT_nat (by omega), T.ret_bind, stT_nat (by rw [List.length_set]; omega), T.ret_bind]
  have pn : ((oj.set x oj[y]).set y oj[x]).Perm (idx (js ++ ks).length) := (swap_permE oj (by omega) (by omega)).trans po
  rw [show mx.map (fun at_ => at_) = mx from List.map_id mx]
  have L2 : forC (τ := Unit) (n__law_are_shifts_right_2 ((js ++ ks).map l2P) (best (js ++ ks))) () [o, mx, (oj.set x oj[y]).set y oj[x]] = .ret (.nx ()) := by
    simp -implicitDefEqProofs only [forC, z_three hJ hor, z_three hJ pm, z_three hJ pn, T.ret_bind, Ctl.loop]
  rw [L2, T.ret_bind]
  dsimp only [Ctl.t]
  have es : (js ++ ks).map (fun w : Int × Int => (w.2, w.1)) = (js ++ ks).map sw := rfl
  have por : o.reverse.Perm (idx ((js ++ ks).map sw).length) := by
    rw [List.length_map]; exact (List.reverse_perm o).trans hor
  rw [es, z_soonest (ok_sw hJ), T.ret_bind, best_sw hJ.pos, decide_eq_true rfl, if_tt, z_ends (ok_sw hJ) por, T.ret_bind, last2 (ne_map (ok_sw hJ).1 por), T.ret_bind, ix1, T.ret_bind, T.lim_ret]
  exact decide_eq_true (Mo_rev hJ hor)
end Mi.K19
set_option Elab.async false
set_option linter.all false
set_option maxRecDepth 100000
set_option maxHeartbeats 2000000
namespace Mi
open PySem PySem.Spec PyProof.Rows L2
section
variable {α : Type}
theorem minT_least {e : α → D} [DecidableEq α] {lt : α → α → Bool} {k : Nat} (h : OrdE e lt k) {l : List α} (hn : l ≠ []) : ∃ m, minT lt l = .ret m ∧ m ∈ l ∧ ∀ x ∈ l, lt x m = false := by
  obtain ⟨m, e1, hm⟩ := minT_ne (lt := lt) hn
  refine ⟨m, e1, hm, ?_⟩
  have e2 : (fun a b => !lt b a) = fun a b => !rowB (enc (e b)) (enc (e a)) := by
    funext a b; rw [h.row]
  have t : PySem.W.TotalLe fun a b => !lt b a := by rw [e2]; exact sortTotal fun a => enc (e a)
  have go : ∀ (l : List α) (x : α), ∀ y ∈ x :: l, (!lt y (l.foldl (fun a y => if lt y a then y else a) x)) = true := fun l => by
    induction l with
    | nil => intro x y m; simp at m; subst m; rw [List.foldl_nil, h.irr]; rfl
    | cons z l ih =>
      intro x y m
      rw [List.foldl_cons]
      have i1 := ih (if lt z x = true then z else x)
      have i2 := i1 _ List.mem_cons_self
      by_cases c : lt z x = true
      · rw [if_pos c] at i1 i2 ⊢
        rcases List.mem_cons.mp m with rfl | m
        · have hz : (!lt y z) = true := by
            rcases t.total z y with q | q
            · exact q
            · have q : (!lt z y) = true := q
              rw [c] at q; cases q
          exact t.trans _ z _ i2 hz
        · exact i1 y m
      · rw [if_neg c] at i1 i2 ⊢
        rcases List.mem_cons.mp m with rfl | m
        · exact i2
        · rcases List.mem_cons.mp m with rfl | m
          · exact t.trans _ x _ i2 (by simpa using c)
          · exact i1 y (by simp [m])
  cases l with
  | nil => exact (hn rfl).elim
  | cons x l =>
    have e' : minT lt (x :: l) = .ret (l.foldl (fun a y => if lt y a then y else a) x) := rfl
    rw [e'] at e1
    cases e1
    intro y m
    have := go l x y m
    simpa using this
end
theorem ix3 (p : Int × Int × Int) : ixT (l3P p) 0 = .ret p.1 ∧ ixT (l3P p) 1 = .ret p.2.1 ∧ ixT (l3P p) 2 = .ret p.2.2 := ⟨rfl, rfl, rfl⟩
theorem sm_B : SmallE eB (fun _ => True) 5 0 := fun x _ => ⟨rfl, by simp [shC], by simp [dpD]⟩
theorem sm_P3 {α β γ : Type} {e1 : α → D} {e2 : β → D} {e3 : γ → D} {P1 : α → Prop} {P2 : β → Prop} {P3 : γ → Prop} {B1 B2 B3 C1 C2 C3 : Nat} (h1 : SmallE e1 P1 B1 C1) (h2 : SmallE e2 P2 B2 C2) (h3 : SmallE e3 P3 B3 C3) : SmallE (eP3 e1 e2 e3) (fun p => P1 p.1 ∧ P2 p.2.1 ∧ P3 p.2.2) (B1 + B2 + B3 + 8) (max C1 (max C2 C3) + 1) := fun p q => by
  obtain ⟨a1, b1, c1⟩ := h1 p.1 q.1
  obtain ⟨a2, b2, c2⟩ := h2 p.2.1 q.2.1
  obtain ⟨a3, b3, c3⟩ := h3 p.2.2 q.2.2
  refine ⟨by simp [eP3, okSh, okShs, a1, a2, a3], ?_, ?_⟩
  · simp only [eP3, shC, shCs]; omega
  · simp only [eP3, dpD, dpDs]; omega
end Mi
namespace Mi.K19
open PySem PySem.Spec PyProof.Rows L2 Mi
/-! ### three machines, their values -/
def at3 (js : List Jc) (i : Int) : Jc := js.getD i.toNat (0, 0, 0)
def Ok3 (js : List Jc) : Prop := js ≠ [] ∧ js.length ≤ 6 ∧ ∀ j ∈ js, (0 ≤ j.1 ∧ j.1 ≤ 1000) ∧ (0 ≤ j.2.1 ∧ j.2.1 ≤ 1000) ∧ 0 ≤ j.2.2 ∧ j.2.2 ≤ 1000
theorem ok_jobs3 {js : List Jc} (h : Ok3 js) : ∀ l ∈ js.map l3P, JobOk 3 l := fun l m => by
  obtain ⟨j, mj, rfl⟩ := List.mem_map.mp m
  have := h.2.2 j mj
  exact ⟨rfl, fun x mx => by simp [l3P] at mx; omega⟩
theorem len_jobs3 {js : List Jc} : ∀ l ∈ js.map l3P, l.length = 3 := fun l m => by
  obtain ⟨j, mj, rfl⟩ := List.mem_map.mp m
  rfl
def runs3 : List Jc → Int × Int × Int → List (Int × Int × Int)
  | [], _ => []
  | j :: js, s => stp3 s j :: runs3 js (stp3 s j)
theorem runs3_last : ∀ {js : List Jc} {s : Int × Int × Int} (h : runs3 js s ≠ []), (runs3 js s).getLast h = F3 s js
  | [], s, h => (h rfl).elim
  | [j], s, h => rfl
  | j :: k :: js, s, h => by
    have := runs3_last (js := k :: js) (s := stp3 s j) (by simp [runs3])
    show (stp3 s j :: runs3 (k :: js) (stp3 s j)).getLast _ = _
    rw [List.getLast_cons (by simp [runs3]), this]; rfl
theorem runs_3 : ∀ {js : List Jc} {s : Int × Int × Int}, Pos3 js → 0 ≤ s.1 → runs (js.map l3P) (l3P s) = (runs3 js s).map l3P
  | [], s, _, _ => rfl
  | j :: js, s, hp, h => by
    have hj := hp j (by simp)
    have e : adv 0 (l3P s) (l3P j) = l3P (stp3 s j) := by
      unfold l3P stp3
      simp only [adv]
      rw [Int.max_eq_right h, Int.max_comm (s.1 + j.1), Int.max_comm (max s.2.1 (s.1 + j.1) + j.2.1)]
    rw [List.map_cons]
    unfold runs
    rw [e, runs_3 (fun x m => hp x (by simp [m])) (by unfold stp3; dsimp only; omega)]
    rfl
theorem Ok3.pos {js : List Jc} (h : Ok3 js) : Pos3 js := fun j m => ⟨(h.2.2 j m).1.1, (h.2.2 j m).2.1.1, (h.2.2 j m).2.2.1⟩
theorem at3_pos {js : List Jc} (hp : Pos3 js) (o : List Int) : Pos3 (o.map (at3 js)) := fun j m => by
  obtain ⟨i, _, rfl⟩ := List.mem_map.mp m
  unfold at3
  rw [List.getD_eq_getElem?_getD]
  cases h : js[i.toNat]? with
  | none => simp
  | some x => simpa using hp x (List.mem_of_getElem? h)
theorem atL_3 {js : List Jc} {i : Int} (h0 : 0 ≤ i) (h : i < js.length) : atL (js.map l3P) i = l3P (at3 js i) := by
  have : i.toNat < js.length := by omega
  simp [atL, at3, List.getD_eq_getElem?_getD, this]
def Mo3 (js : List Jc) (o : List Int) : Int := Ms3 (o.map (at3 js))
section
variable {js : List Jc} {o : List Int} (h : Ok3 js) (ho : o.Perm (idx js.length))
include h ho
theorem at_map3 : o.map (atL (js.map l3P)) = (o.map (at3 js)).map l3P := by
  rw [List.map_map]
  exact List.map_congr_left fun i m => atL_3 ((perm_idx ho).2.2 i m).1 ((perm_idx ho).2.2 i m).2
theorem ne_map3 : o.map (at3 js) ≠ [] := by
  intro e
  have := congrArg List.length e
  have q := (perm_idx ho).1
  simp [q] at this
  exact h.1 this
theorem last3 : ixT ((runs3 (o.map (at3 js)) (0, 0, 0)).map l3P) (-1) = .ret (l3P (F3 (0, 0, 0) (o.map (at3 js)))) := by
  have hn := ne_map3 h ho
  have hr : runs3 (o.map (at3 js)) (0, 0, 0) ≠ [] := by
    cases e : o.map (at3 js) with
    | nil => exact (hn e).elim
    | cons j js => simp [runs3]
  rw [ixT_m1 (by simpa using hr), List.getLast_map, runs3_last hr]
theorem z_end3 : ((n_ends_of (js.map l3P) o).bind fun v => ixT v (-1)).bind (fun v => ixT v 2) = .ret (Mo3 js o) := by
  obtain ⟨q1, q2, q3⟩ := perm_idx ho
  have := h.2.1
  rw [z_ends_of (m := 3) (by simpa using h.1) (by omega) len_jobs3 (by simpa using q3) (by omega), at_map3 h ho, T.ret_bind, show List.replicate 3 (0 : Int) = l3P (0, 0, 0) from rfl, runs_3 (at3_pos h.pos o) (Int.le_refl _), last3 h ho, T.ret_bind, (ix3 _).2.2]
  rfl
theorem z_lend3 : ((n__law_ends__1 (js.map l3P) o [0, 0, 0]).bind fun v => (ixT v (-1)).bind fun v => ixT v 2) = .ret (Mo3 js o) := by
  obtain ⟨q1, q2, q3⟩ := perm_idx ho
  have := h.2.1
  rw [z_law_ends1 (m := 3) len_jobs3 (by simpa using q3) (by omega) rfl, at_map3 h ho, T.ret_bind, show ([0, 0, 0] : List Int) = l3P (0, 0, 0) from rfl, runs_3 (at3_pos h.pos o) (Int.le_refl _), last3 h ho, T.ret_bind, (ix3 _).2.2]
  rfl
end
theorem F3_small : ∀ {js : List Jc} {s : Int × Int × Int} {B : Int}, (∀ j ∈ js, (0 ≤ j.1 ∧ j.1 ≤ 1000) ∧ (0 ≤ j.2.1 ∧ j.2.1 ≤ 1000) ∧ 0 ≤ j.2.2 ∧ j.2.2 ≤ 1000) → 0 ≤ s.1 ∧ s.1 ≤ B → 0 ≤ s.2.1 ∧ s.2.1 ≤ B → 0 ≤ s.2.2 ∧ s.2.2 ≤ B → 0 ≤ (F3 s js).2.2 ∧ (F3 s js).2.2 ≤ B + 3000 * js.length
  | [], s, B, _, _, _, h => by simp [F3]; omega
  | j :: js, s, B, h, h1, h2, h3 => by
    have hj := h j (by simp)
    have := F3_small (js := js) (s := stp3 s j) (B := B + 3000) (fun x m => h x (by simp [m])) (by unfold stp3; dsimp only; omega) (by unfold stp3; dsimp only; omega) (by unfold stp3; dsimp only; omega)
    show 0 ≤ (F3 (stp3 s j) js).2.2 ∧ (F3 (stp3 s j) js).2.2 ≤ _
    simp only [List.length_cons]; omega
theorem at3_ok {js : List Jc} (h : Ok3 js) (o : List Int) : ∀ j ∈ o.map (at3 js), (0 ≤ j.1 ∧ j.1 ≤ 1000) ∧ (0 ≤ j.2.1 ∧ j.2.1 ≤ 1000) ∧ 0 ≤ j.2.2 ∧ j.2.2 ≤ 1000 := fun j m => by
  obtain ⟨i, _, rfl⟩ := List.mem_map.mp m
  unfold at3
  rw [List.getD_eq_getElem?_getD]
  cases e : js[i.toNat]? with
  | none => simp
  | some x => simpa using h.2.2 x (List.mem_of_getElem? e)
theorem Mo3_small {js : List Jc} {o : List Int} (h : Ok3 js) (ho : o.Perm (idx js.length)) : 0 ≤ Mo3 js o ∧ Mo3 js o ≤ 18000 := by
  have := F3_small (B := 0) (s := (0, 0, 0)) (at3_ok h o) (by simp) (by simp) (by simp)
  have hl := (perm_idx ho).1
  have := h.2.1
  unfold Mo3 Ms3
  rw [List.length_map] at *
  omega
theorem at2_s2 (js : List Jc) (o : List Int) : (o.map (at3 js)).map s2 = o.map (at2 (js.map s2)) := by
  rw [List.map_map]
  refine List.map_congr_left fun i _ => ?_
  unfold at2 at3
  simp only [Function.comp, List.getD_eq_getElem?_getD, List.getElem?_map]
  cases js[i.toNat]? <;> rfl
theorem at3_idx (js : List Jc) : (idx js.length).map (at3 js) = js := by
  unfold idx
  rw [List.map_map]
  apply List.ext_getElem
  · simp
  · intro i a b
    simp [at3, List.getD_eq_getElem?_getD, b]
theorem seq_perm3 {js : List Jc} {o : List Int} (ho : o.Perm (idx js.length)) : (o.map (at3 js)).Perm js := by
  have := ho.map (at3 js)
  rwa [at3_idx] at this
theorem z_sure {js : List Jc} {b : Int} {q : List Int} (h : Ok3 js) (hb0 : 0 ≤ b) (hs : Sure js b) (hq : q.Perm (idx js.length)) : Mo3 js (ordJ cP (js.map s2)) ≤ Mo3 js q := by
  have po := ordJ_perm cP (js.map s2)
  rw [List.length_map] at po
  refine sure_least h.pos hb0 hs (seq_perm3 hq) (seq_perm3 po) ?_
  rw [at2_s2]
  exact ordJ_pair cP1 cP2 _
theorem z_johnson1 (js : List Jb) (hl : js.length ≤ 1000) : n_johnson__1 js = .ret (ordJ cP js) := by
  unfold n_johnson__1
  have hf : (fun z : Int × Int × Int => decide (z.2.2 < z.2.1)) = fun z => !cP z.2 := by
    funext z; unfold cP
    by_cases h : z.2.2 < z.2.1
    · rw [decide_eq_true h, decide_eq_false (by omega)]; rfl
    · rw [decide_eq_false h, decide_eq_true (by omega)]; rfl
  have l1 : (firstJ cP js).length + (lastJ cP js).length = js.length := by
    have := (ordJ_perm cP js).length_eq
    rw [len_idx] at this
    unfold ordJ at this
    simpa using this
  simp only [T.ret_bind, T.bind_bind, hf]
  show ((fewT (firstJ cP js ++ (lastJ cP js ++ []))).bind _) = _
  rw [List.append_nil, fewT_of (by simp; omega), T.ret_bind]
  rfl
/-! ### all sequences -/
def stepR (n : Nat) (L : List (List Int)) : List (List Int) := L.flatMap fun row => ((idx n).filter fun x => !decide (x ∈ row)).map fun x => row ++ [x]
def rowsN (n : Nat) : Nat → List (List Int)
  | 0 => [[]]
  | k + 1 => stepR n (rowsN n k)
theorem mem_rowsN {n : Nat} : ∀ {k : Nat} {r : List Int}, r ∈ rowsN n k ↔ r.length = k ∧ r.Nodup ∧ ∀ x ∈ r, x ∈ idx n
  | 0, r => by
    constructor
    · intro h; simp [rowsN] at h; subst h; simp
    · rintro ⟨h, _⟩; rw [List.length_eq_zero_iff.mp h]; simp [rowsN]
  | k + 1, r => by
    unfold rowsN stepR
    rw [List.mem_flatMap]
    constructor
    · rintro ⟨row, hr, m⟩
      obtain ⟨x, mx, rfl⟩ := List.mem_map.mp m
      obtain ⟨m1, m2⟩ := List.mem_filter.mp mx
      obtain ⟨a, b, c⟩ := mem_rowsN.mp hr
      have m2 : x ∉ row := by simpa using m2
      refine ⟨by simp [a], ?_, fun y my => ?_⟩
      · rw [List.nodup_append]
        refine ⟨b, by simp, fun y my z mz e => ?_⟩
        simp at mz; subst e mz; exact m2 my
      · rcases List.mem_append.mp my with my | my
        · exact c y my
        · simp at my; subst my; exact m1
    · rintro ⟨a, b, c⟩
      obtain ⟨p, x, rfl⟩ : ∃ p x, r = p ++ [x] := by
        rcases List.eq_nil_or_concat r with e | ⟨p, x, e⟩
        · subst e; simp at a
        · exact ⟨p, x, by rw [e]; simp⟩
      rw [List.nodup_append] at b
      refine ⟨p, mem_rowsN.mpr ⟨by simpa using a, b.1, fun y my => c y (by simp [my])⟩, List.mem_map.mpr ⟨x, List.mem_filter.mpr ⟨c x (by simp), ?_⟩, rfl⟩⟩
      have : x ∉ p := fun m => b.2.2 x m x (by simp) rfl
      simpa using this
theorem sub_rest {α : Type} : ∀ {r l : List α}, r.Nodup → (∀ x ∈ r, x ∈ l) → ∃ rest, l.Perm (r ++ rest)
  | [], l, _, _ => ⟨l, .refl _⟩
  | x :: r, l, hn, hs => by
    obtain ⟨h1, h2⟩ := List.nodup_cons.mp hn
    obtain ⟨a, b, rfl⟩ := List.append_of_mem (hs x (by simp))
    obtain ⟨rest, hr⟩ := sub_rest (l := a ++ b) h2 fun y m => by
      have := hs y (by simp [m])
      rcases List.mem_append.mp this with q | q
      · simp [q]
      · rcases List.mem_cons.mp q with rfl | q
        · exact (h1 m).elim
        · simp [q]
    exact ⟨rest, List.perm_middle.trans ((List.perm_cons x).mpr hr)⟩
theorem rows_perm {n : Nat} {r : List Int} : r ∈ rowsN n n ↔ r.Perm (idx n) := by
  rw [mem_rowsN]
  constructor
  · rintro ⟨a, b, c⟩
    obtain ⟨rest, hr⟩ := sub_rest b c
    have := hr.length_eq
    rw [List.length_append, len_idx, a] at this
    have : rest = [] := List.length_eq_zero_iff.mp (by omega)
    subst this
    simpa using hr.symm
  · intro h
    obtain ⟨a, b, c⟩ := perm_idx h
    exact ⟨a, b, fun x m => mem_idx.mpr (c x m)⟩
end Mi.K19
set_option Elab.async false
set_option linter.all false
set_option maxRecDepth 100000
set_option maxHeartbeats 2000000
namespace Mi.K19
open PySem PySem.Spec PyProof.Rows L2 Mi

def moreR (n : Nat) (row : List Int) : List (List Int) := ((idx n).filter fun x => !decide (x ∈ row)).map fun x => row ++ [x]
theorem more_len (n : Nat) (row : List Int) : (moreR n row).length ≤ n := by
  unfold moreR
  rw [List.length_map]
  exact Nat.le_trans (List.length_filter_le _ _) (by rw [len_idx]; exact Nat.le_refl _)
theorem rng_idx {n : Nat} (h : n ≤ 1000) : rngT 0 (n : Int) = .ret (idx n) := rngT_nat (by omega)
theorem o2_step {n : Nat} {L : List (List Int)} {row : List Int} (hn : n ≤ 6) (hr : row.length ≤ 1000) (hL : L.length ≤ 900000) : n_all_orders_2 n L row = .ret (L ++ moreR n row) := by
  unfold n_all_orders_2
  rw [rng_idx (by omega), T.ret_bind]
  have e : filT (fun one : Int => T.ret (!decide (one ∈ row))) (fun one : Int => ((T.ret row).bind fun v61 => ((T.ret one).bind fun v59 => (T.ret []).bind fun v60 => T.ret (v59 :: v60)).bind fun v62 => T.ret (v61 ++ v62)).bind fewT) (idx n) = .ret (moreR n row) := by
    refine filT_of (fun x _ => rfl) fun x _ _ => ?_
    simp -implicitDefEqProofs only [T.ret_bind]
    exact fewT_of (by simp; omega)
  have := more_len n row
  rw [e, T.ret_bind, T.ret_bind, extT_of (by dsimp only; omega), T.ret_bind]
theorem t2_step {n : Nat} {L : List (List Int)} {row : List Int} (hn : n ≤ 6) (hr : row.length ≤ 1000) (hL : L.length ≤ 900000) : n__law_are_three_right_2 n L row = .ret (L ++ moreR n row) := by
  unfold n__law_are_three_right_2
  rw [rng_idx (by omega), T.ret_bind]
  have e : filT (fun at_ : Int => T.ret (!decide (at_ ∈ row))) (fun at_ : Int => catT row [at_]) (idx n) = .ret (moreR n row) :=
    filT_of (fun x _ => rfl) fun x _ _ => catT_of (by simp; omega)
  have := more_len n row
  rw [e, T.ret_bind, T.ret_bind, extT_of (by dsimp only; omega), T.ret_bind]
theorem fold_more (n : Nat) : ∀ (L acc : List (List Int)), L.foldl (fun s row => s ++ moreR n row) acc = acc ++ stepR n L
  | [], acc => by simp [stepR]
  | r :: L, acc => by
    rw [List.foldl_cons, fold_more n L]
    show _ = acc ++ (moreR n r ++ stepR n L)
    rw [List.append_assoc]
theorem step_loop {n : Nat} {f : List (List Int) → List Int → T (List (List Int))} {L : List (List Int)} (hn : n ≤ 6) (hf : ∀ s row, row.length ≤ 1000 → s.length ≤ 900000 → f s row = .ret (s ++ moreR n row)) (hr : ∀ r ∈ L, r.length ≤ 1000) (hL : L.length ≤ 100000) : forT f [] L = .ret (stepR n L) := by
  have := (forT_of (f := f) (g := fun s row => s ++ moreR n row) (fun pre s => s.length ≤ 6 * pre.length) (l := L) (pre := []) (s := []) (fun p x q s e inv => by
    have e : L = p ++ x :: q := e
    have hp : p.length < L.length := by rw [e]; simp
    have := more_len n x
    exact ⟨hf s x (hr x (by rw [e]; simp)) (by omega), by simp; omega⟩) (by simp)).1
  rw [this, fold_more]
  rfl
theorem step_len {n : Nat} (hn : n ≤ 6) : ∀ (L : List (List Int)), (stepR n L).length ≤ 6 * L.length
  | [] => by simp [stepR]
  | r :: L => by
    have := step_len hn L
    have := more_len n r
    show (moreR n r ++ stepR n L).length ≤ _
    simp only [List.length_append, List.length_cons]
    omega
theorem rowsN_len {n : Nat} (hn : n ≤ 6) : ∀ k, (rowsN n k).length ≤ 6 ^ k
  | 0 => Nat.le_refl _
  | k + 1 => by
    have := step_len hn (rowsN n k)
    have := rowsN_len hn k
    show (stepR n (rowsN n k)).length ≤ _
    rw [Nat.pow_succ]; omega
theorem rows_loop {n : Nat} {f : List (List Int) → Int → T (List (List Int))} (hn : n ≤ 6) (hf : ∀ s lap, (∀ r ∈ s, r.length ≤ 1000) → s.length ≤ 100000 → f s lap = .ret (stepR n s)) : forT f [[]] (idx n) = .ret (rowsN n n) := by
  have h6 : ∀ k, k ≤ 6 → 6 ^ k ≤ 46656 := fun k hk => Nat.le_trans (Nat.pow_le_pow_right (by omega) hk) (by decide)
  have := forT_of (f := f) (g := fun s _ => stepR n s) (fun pre s => s = rowsN n pre.length) (l := idx n) (pre := []) (s := [[]]) (fun p x q s e inv => by
    have hp : p.length < n := by
      have := congrArg List.length e
      simp [len_idx] at this; omega
    subst inv
    have h1 := rowsN_len hn p.length
    have h2 := h6 p.length (by omega)
    refine ⟨hf _ x (fun r m => ?_) (by omega), by simp [rowsN]⟩
    have := (mem_rowsN.mp m).1
    omega) rfl
  rw [this.1, this.2]
  simp [len_idx]
theorem z_all_orders {n : Nat} (hn : n ≤ 6) : n_all_orders n = .ret (rowsN n n) := by
  unfold n_all_orders
  rw [T.ret_bind, rng_idx (by omega), T.ret_bind, rows_loop hn fun s lap hr hs => ?_]
  · rfl
  · unfold n_all_orders_1
    rw [T.ret_bind, step_loop hn (fun s row h1 h2 => o2_step hn h1 h2) hr hs]
    rfl
theorem z_law_rows {n : Nat} (hn : n ≤ 6) : forT (n__law_are_three_right_1 n) [[]] (idx n) = .ret (rowsN n n) :=
  rows_loop hn fun s lap hr hs => by
    unfold n__law_are_three_right_1
    rw [T.ret_bind, step_loop hn (fun s row h1 h2 => t2_step hn h1 h2) hr hs]
    rfl
/-- the first of the soonest -/
def tries (js : List Jc) : List (Int × List Int) := (rowsN js.length js.length).map fun r => (Mo3 js r, r)
theorem lt2_fst {α β : Type} [DecidableEq α] {l2 : β → β → Bool} {x m : Int × β} (h : lt2 ltI l2 x m = false) : m.1 ≤ x.1 := by
  unfold lt2 ltI at h
  split at h
  · omega
  · simp at h; exact h
theorem tries_min {js : List Jc} (h : Ok3 js) : ∃ q, minT (lt2 ltI (ltLs ltI)) (tries js) = .ret (Mo3 js q, q) ∧ q.Perm (idx js.length) ∧ ∀ r, r.Perm (idx js.length) → Mo3 js q ≤ Mo3 js r := by
  have hne : tries js ≠ [] := by
    intro e
    have : rowsN js.length js.length = [] := by simpa [tries] using e
    have hm : idx js.length ∈ rowsN js.length js.length := rows_perm.mpr (.refl _)
    rw [this] at hm; simp at hm
  obtain ⟨m, e, mem, least⟩ := minT_least (or_P2 (k := 2) (or_I.le (by decide)) (or_T or_I)) hne
  obtain ⟨q, mq, rfl⟩ := List.mem_map.mp mem
  refine ⟨q, e, rows_perm.mp mq, fun r hr => ?_⟩
  exact lt2_fst (α := Int) (least (Mo3 js r, r) (List.mem_map_of_mem (rows_perm.mpr hr)))
theorem z_three3 {js : List Jc} (h : Ok3 js) {q : Int × List Int} (hq : minT (lt2 ltI (ltLs ltI)) (tries js) = .ret q) : n_soonest_three (js.map l3P) = .ret q := by
  have hl := h.2.1
  have h0 := List.length_pos_iff.mpr h.1
  unfold n_soonest_three
  rw [show (3 : Int) = ((3 : Nat) : Int) from rfl, z_check_jobs (m := 3) (by simp; omega) (by simp; omega) (ok_jobs3 h), T.ret_bind, List.length_map, z_all_orders hl, T.ret_bind]
  have e : mapT (fun order : List Int => (((((n_ends_of (js.map l3P) order).bind fun v2 => ixT v2 (-1)).bind fun v3 => ixT v3 2).bind fun v4 => T.ret (v4, order, ())).bind fun v6 => T.ret (v6.1, v6.2.1))) (rowsN js.length js.length) = .ret (tries js) := mapT_of fun r m => by
    rw [z_end3 h (rows_perm.mp m)]; rfl
  rw [e, T.ret_bind, T.ret_bind]
  exact hq
theorem orB {b c : Bool} : (if b = true then T.ret true else T.ret c) = T.ret (b || c) := by cases b <;> rfl
theorem z_end3' {js : List Jc} {o : List Int} (h : Ok3 js) (ho : o.Perm (idx js.length)) : ∃ V t, n_ends_of (js.map l3P) o = .ret V ∧ ixT V (-1) = .ret t ∧ ixT t 2 = .ret (Mo3 js o) := by
  obtain ⟨q1, q2, q3⟩ := perm_idx ho
  have := h.2.1
  refine ⟨_, _, ?_, last3 h ho, (ix3 _).2.2⟩
  rw [z_ends_of (m := 3) (by simpa using h.1) (by omega) len_jobs3 (by simpa using q3) (by omega), at_map3 h ho, show List.replicate 3 (0 : Int) = l3P (0, 0, 0) from rfl, runs_3 (at3_pos h.pos o) (Int.le_refl _)]
theorem z_lend3' {js : List Jc} {o : List Int} (h : Ok3 js) (ho : o.Perm (idx js.length)) : ∃ V t, n__law_ends__1 (js.map l3P) o [0, 0, 0] = .ret V ∧ ixT V (-1) = .ret t ∧ ixT t 2 = .ret (Mo3 js o) := by
  obtain ⟨q1, q2, q3⟩ := perm_idx ho
  have := h.2.1
  refine ⟨_, _, ?_, last3 h ho, (ix3 _).2.2⟩
  rw [z_law_ends1 (m := 3) len_jobs3 (by simpa using q3) (by omega) rfl, at_map3 h ho, show ([0, 0, 0] : List Int) = l3P (0, 0, 0) from rfl, runs_3 (at3_pos h.pos o) (Int.le_refl _)]
theorem p3_all (js : List Jc) : mapT p3T (js.map l3P) = .ret js := by
  rw [mapT_map (k := id) fun z _ => p3_l3 z, List.map_id]
theorem z_middle {js : List Jc} (h : Ok3 js) {m a c : Int} (hm : maxT (js.map fun j => j.2.1) = .ret m) (ha : minT ltI (js.map fun j => j.1) = .ret a) (hc : minT ltI (js.map fun j => j.2.2) = .ret c) :
    n_middle_rule (js.map l3P) = .ret (Mo3 js (ordJ cP (js.map s2)), ordJ cP (js.map s2), decide (m ≤ a) || decide (m ≤ c)) := by
  have hl := h.2.1
  have h0 := List.length_pos_iff.mpr h.1
  have po := ordJ_perm cP (js.map s2)
  rw [List.length_map] at po
  have hj := z_johnson1 (js.map s2) (by rw [List.length_map]; omega)
  have hc3 : n_check_jobs (js.map l3P) 20 3 = .ret () := by
    rw [show (3 : Int) = ((3 : Nat) : Int) from rfl]
    exact z_check_jobs (m := 3) (by simp; omega) (by simp; omega) (ok_jobs3 h)
  have hs : (js.map fun w : Int × Int × Int => (w.1 + w.2.1, w.2.1 + w.2.2)) = js.map s2 := rfl
  unfold n_middle_rule
  simp -implicitDefEqProofs only [T.ret_bind, T.bind_bind, hc3, p3_all, hs, hj, hm, ha, hc]
  obtain ⟨V, t, v1, v2, v3⟩ := z_end3' h po
  simp -implicitDefEqProofs only [orB, T.ret_bind, v1, v2, v3]
end Mi.K19
set_option Elab.async false
set_option linter.all false
set_option maxRecDepth 100000
set_option maxHeartbeats 2000000
namespace Mi.K19
open PySem PySem.Spec PyProof.Rows L2 Mi

theorem z_of {α : Type} {e : α → D} {l : List α} (h : l ≠ []) (hl : l.length ≤ 1000) : (n__law_of e () l).lim 1 fun x => x ∈ l := by
  have := List.length_pos_iff.mpr h
  unfold n__law_of
  refine draw_then (by omega) (by omega) (by omega) fun d hd => ?_
  rw [ixT_nat (by omega), T.lim_ret]
  exact List.getElem_mem _
theorem ixT_m2 {α : Type} {l : List α} {x : α} (h : 1 ≤ l.length) : ixT (l ++ [x]) (-2) = .ret (l[l.length - 1]'(by omega)) := by
  unfold ixT L2.atI L2.ixN
  rw [if_neg (by omega), if_pos (by simp; omega)]
  have e : (-2 + ((l ++ [x]).length : Int)).toNat = l.length - 1 := by simp; omega
  show T.ofO ((l ++ [x])[(-2 + ((l ++ [x]).length : Int)).toNat]?) = _
  rw [e, List.getElem?_append_left (by omega), List.getElem?_eq_getElem (by omega)]
  rfl
theorem stT_m1 {α : Type} {l : List α} {x y : α} : stT (l ++ [x]) (-1) y = .ret (l ++ [y]) := by
  unfold stT L2.ixN
  rw [if_neg (by omega), if_pos (by simp; omega)]
  have e : (-1 + ((l ++ [x]).length : Int)).toNat = l.length := by simp; omega
  show T.ret ((l ++ [x]).set (-1 + ((l ++ [x]).length : Int)).toNat y) = _
  rw [e]; simp
theorem z_jobs {n m : Nat} (hn : n ≤ 10) (hm : m ≤ 3) : (n__law_jobs () n m).lim 50 fun jobs => jobs.length = n ∧ ∀ j ∈ jobs, JobOk m j := by
  unfold n__law_jobs
  simp -implicitDefEqProofs only [T.ret_bind, T.bind_bind]
  refine T.lim_then (z_of (by simp) (by decide)) (by omega) fun top ht => ?_
  have ht : 1 ≤ top ∧ top ≤ 1001 := by simp at ht; omega
  rw [rng_idx (by omega), T.ret_bind]
  have := forT_lim (f := n__law_jobs_1 () m top) (n := 4) (fun pre (s : List (List Int)) => s.length = pre.length ∧ ∀ j ∈ s, JobOk m j) (l := idx n) (pre := []) (s := []) (fun p x q s hpq inv => by
    have hx : x = p.length := by
      have e : idx n = p ++ x :: q := by simpa using hpq
      have h1 : p.length < (idx n).length := by rw [e]; simp
      have h2 : (idx n)[p.length] = x := by simp [e]
      rw [← h2]; simp [idx]
    have hp : p.length < n := by
      have := congrArg List.length hpq
      simp [len_idx] at this; omega
    subst hx
    unfold n__law_jobs_1
    simp -implicitDefEqProofs only [T.ret_bind, T.bind_bind]
    rw [rng_idx (by omega), T.ret_bind]
    have hj : (mapT (fun machine : Int => (drawT top).bind fun a => T.ret a) (idx m)).lim 3 fun r => JobOk m r := by
      refine T.lim_mono (fun r h => ?_) (by rw [len_idx]; omega) (mapT_lim (n := 1) (Q := fun x : Int => 0 ≤ x ∧ x ≤ 1000) fun y _ => ?_)
      · rw [len_idx] at h; exact ⟨h.1, h.2⟩
      · exact draw_then (by omega) (by omega) (by omega) fun d hd => by rw [T.lim_ret]; omega
    refine T.lim_then hj (by omega) fun r hr => ?_
    rw [appT_of (by omega), T.ret_bind]
    have fin : ∀ y : List Int, JobOk m y → (s ++ [y]).length = (p ++ [(p.length : Int)]).length ∧ ∀ j ∈ s ++ [y], JobOk m j := fun y hy => ⟨by simp [inv.1], fun j mj => by
      rcases List.mem_append.mp mj with mj | mj
      · exact inv.2 j mj
      · simp at mj; subst mj; exact hy⟩
    by_cases h0 : (0 : Int) < p.length
    · rw [decide_eq_true h0, if_tt]
      simp -implicitDefEqProofs only [T.bind_bind, T.ret_bind]
      refine draw_then (by omega) (by omega) (by omega) fun d hd => ?_
      by_cases hd0 : (d : Int) = 0
      · have hs1 : 1 ≤ s.length := by have := inv.1; have : (0:Int) < p.length := h0; omega
        rw [decide_eq_true hd0, if_tt, ixT_m2 hs1, T.ret_bind, stT_m1]
        simp only [T.ret_bind]
        rw [T.lim_ret]
        exact fin _ (inv.2 _ (List.getElem_mem _))
      · rw [decide_eq_false hd0, if_ff]
        try simp only [T.ret_bind]
        rw [T.lim_ret]
        exact fin r hr
    · rw [decide_eq_false h0, if_ff, T.ret_bind, if_ff]
      try simp only [T.ret_bind]
      rw [T.lim_ret]
      exact fin r hr) ⟨rfl, by simp⟩
  refine T.lim_then this (by rw [len_idx]; omega) fun s h => ?_
  rw [T.lim_ret]
  exact ⟨by rw [h.1]; simp [len_idx], h.2⟩
theorem of_job2 {jobs : List (List Int)} (h : ∀ j ∈ jobs, JobOk 2 j) : ∃ js : List Jb, jobs = js.map l2P ∧ ∀ j ∈ js, (0 ≤ j.1 ∧ j.1 ≤ 1000) ∧ 0 ≤ j.2 ∧ j.2 ≤ 1000 := by
  induction jobs with
  | nil => exact ⟨[], rfl, by simp⟩
  | cons j jobs ih =>
    obtain ⟨js, e, q⟩ := ih fun x m => h x (by simp [m])
    obtain ⟨h1, h2⟩ := h j (by simp)
    match j, h1, h2 with
    | [a, b], _, h2 =>
      refine ⟨(a, b) :: js, by rw [e]; rfl, fun x m => ?_⟩
      rcases List.mem_cons.mp m with rfl | m
      · exact ⟨h2 a (by simp), h2 b (by simp)⟩
      · exact q x m
theorem of_job3 {jobs : List (List Int)} (h : ∀ j ∈ jobs, JobOk 3 j) : ∃ js : List Jc, jobs = js.map l3P ∧ ∀ j ∈ js, (0 ≤ j.1 ∧ j.1 ≤ 1000) ∧ (0 ≤ j.2.1 ∧ j.2.1 ≤ 1000) ∧ 0 ≤ j.2.2 ∧ j.2.2 ≤ 1000 := by
  induction jobs with
  | nil => exact ⟨[], rfl, by simp⟩
  | cons j jobs ih =>
    obtain ⟨js, e, q⟩ := ih fun x m => h x (by simp [m])
    obtain ⟨h1, h2⟩ := h j (by simp)
    match j, h1, h2 with
    | [a, b, c], _, h2 =>
      refine ⟨(a, b, c) :: js, by rw [e]; rfl, fun x m => ?_⟩
      rcases List.mem_cons.mp m with rfl | m
      · exact ⟨h2 a (by simp), h2 b (by simp), h2 c (by simp)⟩
      · exact q x m
theorem rep_told {x : Int} {o : List Int} (h : x.natAbs ≤ 1000000) (ho : o.length ≤ 100) (hx : ∀ i ∈ o, i.natAbs ≤ 1000000) : repOk (eP2 eI (eT eI) (x, o)) = true :=
  (sm_P2 sm_I (sm_T 100 sm_I)).ok (by decide) (by decide) ⟨by dsimp only; omega, ho, fun i m => by have := hx i m; omega⟩
theorem rep_told3 {x : Int} {o : List Int} {b : Bool} (h : x.natAbs ≤ 1000000) (ho : o.length ≤ 100) (hx : ∀ i ∈ o, i.natAbs ≤ 1000000) : repOk (eP3 eI (eT eI) eB (x, o, b)) = true :=
  (sm_P3 sm_I (sm_T 100 sm_I) sm_B).ok (by decide) (by decide) ⟨by dsimp only; omega, ⟨ho, fun i m => by have := hx i m; omega⟩, trivial⟩
theorem z_three_right : (n__law_are_three_right ()).lim 60 fun b => b = true := by
  unfold n__law_are_three_right
  simp -implicitDefEqProofs only [T.ret_bind, T.bind_bind]
  refine T.lim_then (z_of (by simp) (by decide)) (by omega) fun many hmany => ?_
  obtain ⟨n, rfl, n1, n6⟩ : ∃ n : Nat, many = n ∧ 1 ≤ n ∧ n ≤ 6 := by
    simp at hmany
    exact ⟨many.toNat, by omega, by omega, by omega⟩
  refine T.lim_then (z_jobs (n := n) (m := 3) (by omega) (by omega)) (by omega) fun jobs hjobs => ?_
  obtain ⟨hl, hj⟩ := hjobs
  obtain ⟨js, rfl, hjs⟩ := of_job3 hj
  rw [List.length_map] at hl
  have h : Ok3 js := ⟨by intro e; subst e; simp at hl; omega, by omega, hjs⟩
  subst hl
  rw [rng_idx (by omega), T.ret_bind, z_law_rows n6, T.ret_bind]
  have e1 : mapT (fun row_ : List Int => (n__law_ends__1 (js.map l3P) row_ [0, 0, 0]).bind fun a => (ixT a (-1)).bind fun a => (ixT a 2).bind fun a => T.ret (a, row_)) (rowsN js.length js.length) = .ret (tries js) := mapT_of fun r m => by
    obtain ⟨V, t, v1, v2, v3⟩ := z_lend3' h (rows_perm.mp m)
    simp -implicitDefEqProofs only [v1, v2, v3, T.ret_bind]
  obtain ⟨q, eq, pq, lq⟩ := tries_min h
  have hmid : ∃ m, maxT (js.map fun j => j.2.1) = .ret m ∧ m ∈ js.map (fun j => j.2.1) ∧ ∀ x ∈ js.map (fun j => j.2.1), x ≤ m := maxI_of (by simpa using h.1)
  obtain ⟨m, em, mm, lm⟩ := hmid
  obtain ⟨a, ea, ma, la⟩ := minI_of (l := js.map fun j => j.1) (by simpa using h.1)
  obtain ⟨c, ec, mc, lc⟩ := minI_of (l := js.map fun j => j.2.2) (by simpa using h.1)
  have po := ordJ_perm cP (js.map s2)
  rw [List.length_map] at po
  have E1 := z_three3 h eq
  have E2 := z_middle h em ea ec
  obtain ⟨V, t, v1, v2, v3⟩ := z_lend3' h po
  have i0 : mapT (fun job : List Int => ixT job 0) (js.map l3P) = .ret (js.map fun j => j.1) := mapT_map fun z _ => (ix3 z).1
  have i1 : mapT (fun job : List Int => ixT job 1) (js.map l3P) = .ret (js.map fun j => j.2.1) := mapT_map fun z _ => (ix3 z).2.1
  have i2 : mapT (fun job : List Int => ixT job 2) (js.map l3P) = .ret (js.map fun j => j.2.2) := mapT_map fun z _ => (ix3 z).2.2
  have hs : (js.map fun w : Int × Int × Int => (w.1 + w.2.1, w.2.1 + w.2.2)) = js.map s2 := rfl
  have hf : (fun z : Int × Int × Int => decide (z.2.2 < z.2.1)) = fun z => !cP z.2 := by
    funext z; unfold cP
    by_cases h : z.2.2 < z.2.1
    · rw [decide_eq_true h, decide_eq_false (by omega)]; rfl
    · rw [decide_eq_false h, decide_eq_true (by omega)]; rfl
  have hl1 : (firstJ cP (js.map s2)).length + (lastJ cP (js.map s2)).length = js.length := by
    have := po.length_eq
    rw [len_idx] at this
    unfold ordJ at this
    simpa using this
  have hc : catT (firstJ cP (js.map s2)) (lastJ cP (js.map s2)) = .ret (firstJ cP (js.map s2) ++ lastJ cP (js.map s2)) := catT_of (by omega)
  have sq := Mo3_small h pq
  have so := Mo3_small h po
  have small : ∀ {o : List Int}, o.Perm (idx js.length) → o.length ≤ 100 ∧ ∀ i ∈ o, i.natAbs ≤ 1000000 := fun {o} ho => by
    obtain ⟨x1, _, x3⟩ := perm_idx ho
    exact ⟨by omega, fun i mi => by have := x3 i mi; omega⟩
  have R1 := rep_told (x := Mo3 js q) (o := q) (by omega) (small pq).1 (small pq).2
  have R2 := rep_told3 (x := Mo3 js (ordJ cP (js.map s2))) (b := decide (m ≤ a) || decide (m ≤ c)) (by omega) (small po).1 (small po).2
  have hcat : catT (srtBy (lt2 ltI ltI) (((enmL (js.map s2)).filter fun z : Int × Int × Int => decide (z.2.1 ≤ z.2.2)).map fun z : Int × Int × Int => (z.2.1, z.1))) (srtBy (lt2 ltI ltI) (((enmL (js.map s2)).filter fun z : Int × Int × Int => !cP z.2).map fun z : Int × Int × Int => (-z.2.2, z.1))) = .ret (firstJ cP (js.map s2) ++ lastJ cP (js.map s2)) := hc
  have ho : (firstJ cP (js.map s2) ++ lastJ cP (js.map s2)).map (fun z => z.2) = ordJ cP (js.map s2) := rfl
  simp -implicitDefEqProofs only [e1, eq, E1, E2, T.ret_bind, if_pos R1, rep_not R1, if_ff, p3_all, hs, hf, hcat, ho, i0, i1, i2, em, ea, ec, orB, if_pos R2, v1, v2, v3, rep_not R2]
  rw [T.lim_ret]
  rw [Bool.and_eq_true, decide_eq_true_eq]
  refine ⟨lq _ po, ?_⟩
  by_cases sure : (decide (m ≤ a) || decide (m ≤ c)) = true
  · rw [sure]
    have hb0 : 0 ≤ m := by
      obtain ⟨j, mj, rfl⟩ := List.mem_map.mp mm
      exact (h.2.2 j mj).2.1.1
    have hS : Sure js m := ⟨fun j mj => lm _ (List.mem_map_of_mem mj), by
      rw [Bool.or_eq_true, decide_eq_true_eq, decide_eq_true_eq] at sure
      rcases sure with s | s
      · exact .inl fun j mj => Int.le_trans s (la _ (List.mem_map_of_mem (f := fun j : Jc => j.1) mj))
      · exact .inr fun j mj => Int.le_trans s (lc _ (List.mem_map_of_mem (f := fun j : Jc => j.2.2) mj))⟩
    have h1 := z_sure h hb0 hS pq
    have h2 := lq _ po
    simp; omega
  · have : (decide (m ≤ a) || decide (m ≤ c)) = false := by simpa using sure
    rw [this]; rfl
end Mi.K19
set_option Elab.async false
set_option linter.all false
set_option maxRecDepth 100000
set_option maxHeartbeats 2000000
namespace Mi.K19
open PySem PySem.Spec PyProof.Rows L2 Mi

theorem z_law_cells (ns : List Int) : ∃ k : Nat, k ≤ 3 ∧ n__law_cells ns 3 = .ret (idx k) := by
  refine ⟨(max 1 (min 3 (ns.length : Int))).toNat, by omega, ?_⟩
  have e : max 1 (min 3 (ns.length : Int)) = ((max 1 (min 3 (ns.length : Int))).toNat : Int) := by omega
  have h : (max 1 (min 3 (ns.length : Int))).toNat ≤ 3 := by omega
  unfold n__law_cells
  rw [T.ret_bind, e]
  exact rng_idx (by omega)
theorem z_lap : (n_law_2 () () x).lim 300 fun c => c = .nx () := by
  unfold n_law_2
  simp -implicitDefEqProofs only [T.bind_bind, T.ret_bind]
  refine draw_then (by omega) (by omega) (by omega) fun d hd => ?_
  rw [show (1 : Int) + (d : Int) = ((1 + d : Nat) : Int) by omega]
  refine T.lim_then (z_jobs (n := 1 + d) (m := 2) (by omega) (by omega)) (by omega) fun js hjs => ?_
  refine draw_then (by omega) (by omega) (by omega) fun d' hd' => ?_
  rw [show (1 : Int) + (d' : Int) = ((1 + d' : Nat) : Int) by omega]
  refine T.lim_then (z_jobs (n := 1 + d') (m := 2) (by omega) (by omega)) (by omega) fun ks hks => ?_
  obtain ⟨js, rfl, h⟩ := of_job2 hjs.2
  obtain ⟨ks, rfl, g⟩ := of_job2 hks.2
  have hl := hjs.1
  have gl := hks.1
  rw [List.length_map] at hl gl
  have h' : Ok2 js := ⟨by intro e; subst e; simp at hl; omega, by omega, h⟩
  have g' : Ok2 ks := ⟨by intro e; subst e; simp at gl; omega, by omega, g⟩
  refine T.lim_then (z_shifts h' g' (by omega) (by omega)) (by omega) fun b hb => ?_
  subst hb
  simp -implicitDefEqProofs only [Bool.not_true, if_ff, T.bind_bind, T.ret_bind]
  refine T.lim_then z_three_right (by omega) fun b hb => ?_
  subst hb
  simp only [Bool.not_true, if_ff]
  rw [T.lim_ret]
theorem z_law (ns : List Int) : (n_law ns).lim 3000 fun b => b = true := by
  unfold n_law
  obtain ⟨k, hk, e⟩ := z_law_cells ns
  simp -implicitDefEqProofs only [T.bind_bind, T.ret_bind]
  rw [e, T.ret_bind]
  have := forC_nx (τ := Unit) (f := n_law_1 ns) (n := 600) (fun _ _ => True) (l := idx k) (pre := []) (s := ()) (fun p x q s hpq _ => by
    have hx : x ∈ idx k := by rw [show idx k = p ++ x :: q by simpa using hpq]; simp
    have hx := mem_idx.mp hx
    unfold n_law_1 potT
    rw [if_pos (by omega), T.ret_bind, show (2 : Int) = ((2 : Nat) : Int) from rfl, rng_idx (by omega), T.ret_bind]
    have := forC_nx (τ := Unit) (f := n_law_2 ()) (n := 300) (fun _ _ => True) (l := idx 2) (pre := []) (s := ()) (fun p x q s hpq _ => by
      refine T.lim_mono (fun c h => ?_) (Nat.le_refl _) (z_lap (x := x))
      subst h; trivial) trivial
    refine T.lim_then this (by rw [len_idx]; omega) fun c h => ?_
    cases c with
    | nx s' => show (T.ret _).lim _ _; rw [T.lim_ret]; trivial
    | _ => exact h.elim) trivial
  refine T.lim_then this (by rw [len_idx]; omega) fun c h => ?_
  cases c with
  | nx s' => show (T.ret _).lim _ _; rw [T.lim_ret]
  | _ => exact h.elim
theorem law_true (ns : List Int) (h : ns.length ≤ 63) : ∃ N, N ≤ LIM ∧ (g_law [.scr ns]).ok N fun _ d => d = .bl true := by
  refine ⟨3000, by unfold LIM; exact Nat.le_trans (by decide) (Nat.pow_le_pow_right (n := 2) (by decide) (show 14 ≤ 100000 by decide)), T.ok_lim ?_⟩
  have := FnN.lim k_law (c := (ns, ())) (z_law ns)
  refine T.lim_mono (fun d h => ?_) (Nat.le_refl _) this
  obtain ⟨x, rfl, rfl⟩ := h
  rfl
end Mi.K19
set_option Elab.async false
set_option linter.all false
set_option maxRecDepth 100000
set_option maxHeartbeats 2000000
namespace Mi.K19
open PySem PySem.Spec PyProof.Rows L2 Mi

theorem absD_int (i : Int) : absD (.int i) = some (.val (.int (if i < 0 then -i else i))) := rfl
theorem gMul_ii (i j : Int) : gMul (.int i) (.int j) = (iMul i j).map .val := rfl
theorem iMul_r {i j : Int} (h : j.natAbs < 18446744073709551616) : iMul i j = some (.int (i * j)) := if_pos (.inr h)
theorem iMul_l {i j : Int} (h : i.natAbs < 18446744073709551616) : iMul i j = some (.int (i * j)) := if_pos (.inl h)
theorem iMod_p {i j : Int} (h : 0 < j) : iMod i j = some (.int (i % j)) := if_pos h
theorem iPow_10 : iPow 10 60 = some (.int (10 ^ 60)) := by
  unfold iPow
  rw [if_pos (by decide +kernel)]
  rfl
theorem iPow_60 : iPow (10 ^ 60) 5 = some (.int (10 ^ 300)) := by
  unfold iPow
  rw [if_pos (by decide +kernel)]
  congr 2
theorem iPow_18 : iPow 10 18 = some (.int (10 ^ 18)) := by
  unfold iPow
  rw [if_pos (by decide +kernel)]
  rfl
theorem iGe_e' (i j : Int) : iGe i j = some (.bl (decide (j ≤ i))) := rfl

theorem pot_rest {s0 s3 s4 : Slot} {p c : Int} (h0 : 0 ≤ p) (h1 : p < 1000) : ∃ x y : Int, ∃ e, r__law_pot_1 [s0, some (false, .int p), some (false, .int c), s3, s4] = .ret (.rt (.lst [.int x, .int y, .int 0]), e) ∧ 0 ≤ x ∧ x < 10 ^ 300 ∧ 0 ≤ y ∧ y < 2305843009213693952 := by
  unfold r__law_pot_1 r__law_pot_2 r__law_pot_3
  generalize ha : (if c < 0 then -c else c) = a
  generalize hT : (10 : Int) ^ 300 = T300
  have hTp : 0 < T300 := by rw [← hT]; exact Int.pow_pos (by decide)
  have m1 : iMod a T300 = some (.int (a % T300)) := iMod_p hTp
  have m3 : ∀ i : Int, iMod i 2305843009213693951 = some (.int (i % 2305843009213693951)) := fun i => iMod_p (by decide)
  have m4 : ∀ i : Int, iMod i 2305843009213693921 = some (.int (i % 2305843009213693921)) := fun i => iMod_p (by decide)
  have e1 : ∀ i : Int, iMul i 83477 = some (.int (i * 83477)) := fun i => iMul_r (by decide)
  have e2 : ∀ i : Int, iMul 12289 i = some (.int (12289 * i)) := fun i => iMul_l (by decide)
  have e3 : ∀ i : Int, iMul i p = some (.int (i * p)) := fun i => iMul_r (by omega)
  have e4 : ∀ (i : Int) (b : Bool), iMul i (if b = true then 1 else 0) = some (.int (i * (if b = true then 1 else 0))) := fun i b => iMul_r (by cases b <;> decide)
  have p1 := iPow_10
  have p2 := iPow_60
  have p3 := iPow_18
  rw [hT] at p2
  generalize (10 : Int) ^ 60 = T60 at p1 p2
  generalize (10 : Int) ^ 18 = T18 at p3
  simp -implicitDefEqProofs only [sSeq_e, sSet_e, sRet_e, eOp_e, eCall_e, hCons_e, hNil_e, eVar_e, eC_e, eLst_e, T.ret_bind, f2_e, rs_val, rs_tmp, rss_cons, rss_nil, rssK_s, okH_s, g1_e, absD_int, intD_int, intD_bl, gI_e, gMul_ii, Option.map, p1, p2, p3, m1, m3, m4, e1, e2, e3, e4, iGe_e', put_e, evK_s, sqK_nx, fz_val, fz_tmp, fzs_cons, fzs_nil, fzK_s, fz1K_s, ha, gAdd_int, List.getElem?_cons_zero, List.getElem?_cons_succ, List.length_cons, List.length_nil, List.set_cons_zero, List.set_cons_succ, Nat.reduceAdd, Nat.reduceLT, if_true, Int.reduceAdd]
  refine ⟨_, _, _, rfl, ?_, ?_, ?_, ?_⟩
  · have := Int.emod_nonneg a (Int.ne_of_gt hTp)
    split <;> omega
  · have := Int.emod_lt_of_pos a hTp
    have := Int.emod_nonneg a (Int.ne_of_gt hTp)
    split <;> omega
  · omega
  · omega
theorem makes_pot : MakesPot q__law_pot := by
  intro ns p h0 h1
  unfold q__law_pot m__law_pot b__law_pot
  unfold mkFn
  rw [if_pos (show [D.scr ns, D.int p].length = 2 from rfl)]
  simp -implicitDefEqProofs only [sSeq_e, sSet_e, startM, List.map, List.length_cons, List.length_nil, Nat.reduceAdd, Nat.reduceSub, List.replicate, List.append, List.cons_append, List.nil_append]
  have key : ∀ (m : M) (c : Int) (e0 : Ev), e0 = [some (false, .scr ns), some (false, .int p), none, none, none] → m e0 = .ret (.val (.int c), e0) → ∃ x y : Int, ((((m e0).bind fun r => evK (fun e => T.ret (Fl.nx, e)) (Mi.put 2 r)).bind (sqK r__law_pot_1)).bind fun r => match r.1 with | .rt d => T.ret d | .nx => T.ret .non | _ => .fail) = .ret (.lst [.int x, .int y, .int 0]) ∧ 0 ≤ x ∧ x < 10 ^ 300 ∧ 0 ≤ y ∧ y < 2305843009213693952 := by
    rintro m c e0 rfl hm
    obtain ⟨x, y, e, h, b⟩ := pot_rest (s0 := some (false, .scr ns)) (s3 := none) (s4 := none) (c := c) h0 h1
    refine ⟨x, y, ?_, b⟩
    rw [hm]
    simp -implicitDefEqProofs only [T.ret_bind, put_e, List.length_cons, List.length_nil, Nat.reduceAdd, Nat.reduceLT, if_true, evK_s, sqK_nx, List.set_cons_zero, List.set_cons_succ]
    rw [h]
    rfl
  by_cases hp : p < (ns.length : Int)
  · obtain ⟨k, rfl⟩ : ∃ k : Nat, p = k := ⟨p.toNat, by omega⟩
    have hk : k < ns.length := by omega
    refine key _ ns[k] _ rfl ?_
    have hx : gIx (.scr ns) (.int k) = some (.val (.int ns[k])) := by
      simp [gIx, L2.atI, L2.ixN, hk]
    simp -implicitDefEqProofs [hx, hp]
  · have hs : ∃ z : Int, sumD (.lst (cutD (ns.map .int) none (some 1))) = some (.val (.int z)) := by
      have := cut_to (ns.map .int) 1
      rw [show ((1 : Nat) : Int) = 1 from rfl] at this
      rw [this, ← List.map_take, sumD_ints]
      exact ⟨_, rfl⟩
    obtain ⟨z, hz⟩ := hs
    refine key _ (z % 1000253 + 7331 * p + 4177) _ rfl ?_
    have m1 : iMod z 1000253 = some (.int (z % 1000253)) := iMod_p (by decide)
    have e2 : iMul 7331 p = some (.int (7331 * p)) := iMul_l (by decide)
    simp -implicitDefEqProofs [hp, gSl, hz, m1, e2, gMul_ii]
end Mi.K19
set_option Elab.async false
set_option linter.all false
set_option maxRecDepth 100000
set_option maxHeartbeats 4000000
namespace Mi.K19
open PySem PySem.Spec PyProof.Rows L2 Mi
theorem all_mk {l : PySem.W.OpenLaw} {w : World} {K : PySem.W.Frag} {h : Heap} {mg : Str → Option Value} {fa : Addr} (X : K.In h) (G : h.Ns mainGlobals mg) (hfa : mg "law" = some (.ref fa))
    {od0 an0 : Option Addr} {sl0 : Array (Option Value)} {oc0 kV0 dc0 pm0 cd0 ct0 : Value} {f0 : Addr}
    {od1 an1 : Option Addr} {sl1 : Array (Option Value)} {oc1 kV1 dc1 pm1 cd1 ct1 : Value} {f1 : Addr}
    {od2 an2 : Option Addr} {sl2 : Array (Option Value)} {oc2 kV2 dc2 pm2 cd2 ct2 : Value} {f2 : Addr}
    {od3 an3 : Option Addr} {sl3 : Array (Option Value)} {oc3 kV3 dc3 pm3 cd3 ct3 : Value} {f3 : Addr}
    {od4 an4 : Option Addr} {sl4 : Array (Option Value)} {oc4 kV4 dc4 pm4 cd4 ct4 : Value} {f4 : Addr}
    {od5 an5 : Option Addr} {sl5 : Array (Option Value)} {oc5 kV5 dc5 pm5 cd5 ct5 : Value} {f5 : Addr}
    {od6 an6 : Option Addr} {sl6 : Array (Option Value)} {oc6 kV6 dc6 pm6 cd6 ct6 : Value} {f6 : Addr}
    {od7 an7 : Option Addr} {sl7 : Array (Option Value)} {oc7 kV7 dc7 pm7 cd7 ct7 : Value} {f7 : Addr}
    {od8 an8 : Option Addr} {sl8 : Array (Option Value)} {oc8 kV8 dc8 pm8 cd8 ct8 : Value} {f8 : Addr}
    {od9 an9 : Option Addr} {sl9 : Array (Option Value)} {oc9 kV9 dc9 pm9 cd9 ct9 : Value} {f9 : Addr}
    {od10 an10 : Option Addr} {sl10 : Array (Option Value)} {oc10 kV10 dc10 pm10 cd10 ct10 : Value} {f10 : Addr}
    {od11 an11 : Option Addr} {sl11 : Array (Option Value)} {oc11 kV11 dc11 pm11 cd11 ct11 : Value} {f11 : Addr}
    {od12 an12 : Option Addr} {sl12 : Array (Option Value)} {oc12 kV12 dc12 pm12 cd12 ct12 : Value} {f12 : Addr}
    {od13 an13 : Option Addr} {sl13 : Array (Option Value)} {oc13 kV13 dc13 pm13 cd13 ct13 : Value} {f13 : Addr}
    {od14 an14 : Option Addr} {sl14 : Array (Option Value)} {oc14 kV14 dc14 pm14 cd14 ct14 : Value} {f14 : Addr}
    {od15 an15 : Option Addr} {sl15 : Array (Option Value)} {oc15 kV15 dc15 pm15 cd15 ct15 : Value} {f15 : Addr}
    {od16 an16 : Option Addr} {sl16 : Array (Option Value)} {oc16 kV16 dc16 pm16 cd16 ct16 : Value} {f16 : Addr}
    {od17 an17 : Option Addr} {sl17 : Array (Option Value)} {oc17 kV17 dc17 pm17 cd17 ct17 : Value} {f17 : Addr}
    {od18 an18 : Option Addr} {sl18 : Array (Option Value)} {oc18 kV18 dc18 pm18 cd18 ct18 : Value} {f18 : Addr}
    {od19 an19 : Option Addr} {sl19 : Array (Option Value)} {oc19 kV19 dc19 pm19 cd19 ct19 : Value} {f19 : Addr}
    {od20 an20 : Option Addr} {sl20 : Array (Option Value)} {oc20 kV20 dc20 pm20 cd20 ct20 : Value} {f20 : Addr}
    {od21 an21 : Option Addr} {sl21 : Array (Option Value)} {oc21 kV21 dc21 pm21 cd21 ct21 : Value} {f21 : Addr}
    {od22 an22 : Option Addr} {sl22 : Array (Option Value)} {oc22 kV22 dc22 pm22 cd22 ct22 : Value} {f22 : Addr}
    {od23 an23 : Option Addr} {sl23 : Array (Option Value)} {oc23 kV23 dc23 pm23 cd23 ct23 : Value} {f23 : Addr}
    {od24 an24 : Option Addr} {sl24 : Array (Option Value)} {oc24 kV24 dc24 pm24 cd24 ct24 : Value} {f24 : Addr}
    {od25 an25 : Option Addr} {sl25 : Array (Option Value)} {oc25 kV25 dc25 pm25 cd25 ct25 : Value} {f25 : Addr}
    {od26 an26 : Option Addr} {sl26 : Array (Option Value)} {oc26 kV26 dc26 pm26 cd26 ct26 : Value} {f26 : Addr}
    {od27 an27 : Option Addr} {sl27 : Array (Option Value)} {oc27 kV27 dc27 pm27 cd27 ct27 : Value} {f27 : Addr}
    {t_MOST_JOBS : Tok}
    {t_MOST_TIME : Tok}
    {t_MOST_TRIED : Tok}
    {t_PAIR : Tok}
    {t_TRIPLE : Tok}
    (a0 : PySem.W.nsIn K mainGlobals "is_tuple" = some (some (.ref f0))) (l0 : K.lookup f0 = some ⟨oc0, od0, .func (PySem.W.fnOf "is_tuple" "is_tuple" (defArgs st_is_tuple) (defBody st_is_tuple) (defScope st_is_tuple) .none kV0 dc0 pm0 an0 cd0 ct0), sl0⟩) (e0 : PySem.W.codeIn K cd0 "is_tuple" = true) (k0 : PySem.W.keepIn K (.ref f0) = true)
    (a1 : PySem.W.nsIn K mainGlobals "is_whole" = some (some (.ref f1))) (l1 : K.lookup f1 = some ⟨oc1, od1, .func (PySem.W.fnOf "is_whole" "is_whole" (defArgs st_is_whole) (defBody st_is_whole) (defScope st_is_whole) .none kV1 dc1 pm1 an1 cd1 ct1), sl1⟩) (e1 : PySem.W.codeIn K cd1 "is_whole" = true) (k1 : PySem.W.keepIn K (.ref f1) = true)
    (a2 : PySem.W.nsIn K mainGlobals "is_integer" = some (some (.ref f2))) (l2 : K.lookup f2 = some ⟨oc2, od2, .func (PySem.W.fnOf "is_integer" "is_integer" (defArgs st_is_integer) (defBody st_is_integer) (defScope st_is_integer) .none kV2 dc2 pm2 an2 cd2 ct2), sl2⟩) (e2 : PySem.W.codeIn K cd2 "is_integer" = true) (k2 : PySem.W.keepIn K (.ref f2) = true)
    (a3 : PySem.W.nsIn K mainGlobals "is_job" = some (some (.ref f3))) (l3 : K.lookup f3 = some ⟨oc3, od3, .func (PySem.W.fnOf "is_job" "is_job" (defArgs st_is_job) (defBody st_is_job) (defScope st_is_job) .none kV3 dc3 pm3 an3 cd3 ct3), sl3⟩) (e3 : PySem.W.codeIn K cd3 "is_job" = true) (k3 : PySem.W.keepIn K (.ref f3) = true)
    (a4 : PySem.W.nsIn K mainGlobals "check_jobs" = some (some (.ref f4))) (l4 : K.lookup f4 = some ⟨oc4, od4, .func (PySem.W.fnOf "check_jobs" "check_jobs" (defArgs st_check_jobs) (defBody st_check_jobs) (defScope st_check_jobs) .none kV4 dc4 pm4 an4 cd4 ct4), sl4⟩) (e4 : PySem.W.codeIn K cd4 "check_jobs" = true) (k4 : PySem.W.keepIn K (.ref f4) = true)
    (a5 : PySem.W.nsIn K mainGlobals "is_order" = some (some (.ref f5))) (l5 : K.lookup f5 = some ⟨oc5, od5, .func (PySem.W.fnOf "is_order" "is_order" (defArgs st_is_order) (defBody st_is_order) (defScope st_is_order) .none kV5 dc5 pm5 an5 cd5 ct5), sl5⟩) (e5 : PySem.W.codeIn K cd5 "is_order" = true) (k5 : PySem.W.keepIn K (.ref f5) = true)
    (a6 : PySem.W.nsIn K mainGlobals "check_order" = some (some (.ref f6))) (l6 : K.lookup f6 = some ⟨oc6, od6, .func (PySem.W.fnOf "check_order" "check_order" (defArgs st_check_order) (defBody st_check_order) (defScope st_check_order) .none kV6 dc6 pm6 an6 cd6 ct6), sl6⟩) (e6 : PySem.W.codeIn K cd6 "check_order" = true) (k6 : PySem.W.keepIn K (.ref f6) = true)
    (a7 : PySem.W.nsIn K mainGlobals "ends_of" = some (some (.ref f7))) (l7 : K.lookup f7 = some ⟨oc7, od7, .func (PySem.W.fnOf "ends_of" "ends_of" (defArgs st_ends_of) (defBody st_ends_of) (defScope st_ends_of) .none kV7 dc7 pm7 an7 cd7 ct7), sl7⟩) (e7 : PySem.W.codeIn K cd7 "ends_of" = true) (k7 : PySem.W.keepIn K (.ref f7) = true)
    (a8 : PySem.W.nsIn K mainGlobals "ends" = some (some (.ref f8))) (l8 : K.lookup f8 = some ⟨oc8, od8, .func (PySem.W.fnOf "ends" "ends" (defArgs st_ends) (defBody st_ends) (defScope st_ends) .none kV8 dc8 pm8 an8 cd8 ct8), sl8⟩) (e8 : PySem.W.codeIn K cd8 "ends" = true) (k8 : PySem.W.keepIn K (.ref f8) = true)
    (a9 : PySem.W.nsIn K mainGlobals "waits" = some (some (.ref f9))) (l9 : K.lookup f9 = some ⟨oc9, od9, .func (PySem.W.fnOf "waits" "waits" (defArgs st_waits) (defBody st_waits) (defScope st_waits) .none kV9 dc9 pm9 an9 cd9 ct9), sl9⟩) (e9 : PySem.W.codeIn K cd9 "waits" = true) (k9 : PySem.W.keepIn K (.ref f9) = true)
    (a10 : PySem.W.nsIn K mainGlobals "johnson" = some (some (.ref f10))) (l10 : K.lookup f10 = some ⟨oc10, od10, .func (PySem.W.fnOf "johnson" "johnson" (defArgs st_johnson) (defBody st_johnson) (defScope st_johnson) .none kV10 dc10 pm10 an10 cd10 ct10), sl10⟩) (e10 : PySem.W.codeIn K cd10 "johnson" = true) (k10 : PySem.W.keepIn K (.ref f10) = true)
    (a11 : PySem.W.nsIn K mainGlobals "soonest" = some (some (.ref f11))) (l11 : K.lookup f11 = some ⟨oc11, od11, .func (PySem.W.fnOf "soonest" "soonest" (defArgs st_soonest) (defBody st_soonest) (defScope st_soonest) .none kV11 dc11 pm11 an11 cd11 ct11), sl11⟩) (e11 : PySem.W.codeIn K cd11 "soonest" = true) (k11 : PySem.W.keepIn K (.ref f11) = true)
    (a12 : PySem.W.nsIn K mainGlobals "shows_soonest" = some (some (.ref f12))) (l12 : K.lookup f12 = some ⟨oc12, od12, .func (PySem.W.fnOf "shows_soonest" "shows_soonest" (defArgs st_shows_soonest) (defBody st_shows_soonest) (defScope st_shows_soonest) .none kV12 dc12 pm12 an12 cd12 ct12), sl12⟩) (e12 : PySem.W.codeIn K cd12 "shows_soonest" = true) (k12 : PySem.W.keepIn K (.ref f12) = true)
    (a13 : PySem.W.nsIn K mainGlobals "all_orders" = some (some (.ref f13))) (l13 : K.lookup f13 = some ⟨oc13, od13, .func (PySem.W.fnOf "all_orders" "all_orders" (defArgs st_all_orders) (defBody st_all_orders) (defScope st_all_orders) .none kV13 dc13 pm13 an13 cd13 ct13), sl13⟩) (e13 : PySem.W.codeIn K cd13 "all_orders" = true) (k13 : PySem.W.keepIn K (.ref f13) = true)
    (a14 : PySem.W.nsIn K mainGlobals "soonest_three" = some (some (.ref f14))) (l14 : K.lookup f14 = some ⟨oc14, od14, .func (PySem.W.fnOf "soonest_three" "soonest_three" (defArgs st_soonest_three) (defBody st_soonest_three) (defScope st_soonest_three) .none kV14 dc14 pm14 an14 cd14 ct14), sl14⟩) (e14 : PySem.W.codeIn K cd14 "soonest_three" = true) (k14 : PySem.W.keepIn K (.ref f14) = true)
    (a15 : PySem.W.nsIn K mainGlobals "middle_rule" = some (some (.ref f15))) (l15 : K.lookup f15 = some ⟨oc15, od15, .func (PySem.W.fnOf "middle_rule" "middle_rule" (defArgs st_middle_rule) (defBody st_middle_rule) (defScope st_middle_rule) .none kV15 dc15 pm15 an15 cd15 ct15), sl15⟩) (e15 : PySem.W.codeIn K cd15 "middle_rule" = true) (k15 : PySem.W.keepIn K (.ref f15) = true)
    (a16 : PySem.W.nsIn K mainGlobals "_law_pot" = some (some (.ref f16))) (l16 : K.lookup f16 = some ⟨oc16, od16, .func (PySem.W.fnOf "_law_pot" "_law_pot" (defArgs st__law_pot) (defBody st__law_pot) (defScope st__law_pot) .none kV16 dc16 pm16 an16 cd16 ct16), sl16⟩) (e16 : PySem.W.codeIn K cd16 "_law_pot" = true) (k16 : PySem.W.keepIn K (.ref f16) = true)
    (a17 : PySem.W.nsIn K mainGlobals "_law_take" = some (some (.ref f17))) (l17 : K.lookup f17 = some ⟨oc17, od17, .func (PySem.W.fnOf "_law_take" "_law_take" (defArgs st__law_take) (defBody st__law_take) (defScope st__law_take) .none kV17 dc17 pm17 an17 cd17 ct17), sl17⟩) (e17 : PySem.W.codeIn K cd17 "_law_take" = true) (k17 : PySem.W.keepIn K (.ref f17) = true)
    (a18 : PySem.W.nsIn K mainGlobals "_law_of" = some (some (.ref f18))) (l18 : K.lookup f18 = some ⟨oc18, od18, .func (PySem.W.fnOf "_law_of" "_law_of" (defArgs st__law_of) (defBody st__law_of) (defScope st__law_of) .none kV18 dc18 pm18 an18 cd18 ct18), sl18⟩) (e18 : PySem.W.codeIn K cd18 "_law_of" = true) (k18 : PySem.W.keepIn K (.ref f18) = true)
    (a19 : PySem.W.nsIn K mainGlobals "_law_cells" = some (some (.ref f19))) (l19 : K.lookup f19 = some ⟨oc19, od19, .func (PySem.W.fnOf "_law_cells" "_law_cells" (defArgs st__law_cells) (defBody st__law_cells) (defScope st__law_cells) .none kV19 dc19 pm19 an19 cd19 ct19), sl19⟩) (e19 : PySem.W.codeIn K cd19 "_law_cells" = true) (k19 : PySem.W.keepIn K (.ref f19) = true)
    (a20 : PySem.W.nsIn K mainGlobals "_law_some" = some (some (.ref f20))) (l20 : K.lookup f20 = some ⟨oc20, od20, .func (PySem.W.fnOf "_law_some" "_law_some" (defArgs st__law_some) (defBody st__law_some) (defScope st__law_some) .none kV20 dc20 pm20 an20 cd20 ct20), sl20⟩) (e20 : PySem.W.codeIn K cd20 "_law_some" = true) (k20 : PySem.W.keepIn K (.ref f20) = true)
    (a21 : PySem.W.nsIn K mainGlobals "_law_is_bool" = some (some (.ref f21))) (l21 : K.lookup f21 = some ⟨oc21, od21, .func (PySem.W.fnOf "_law_is_bool" "_law_is_bool" (defArgs st__law_is_bool) (defBody st__law_is_bool) (defScope st__law_is_bool) .none kV21 dc21 pm21 an21 cd21 ct21), sl21⟩) (e21 : PySem.W.codeIn K cd21 "_law_is_bool" = true) (k21 : PySem.W.keepIn K (.ref f21) = true)
    (a22 : PySem.W.nsIn K mainGlobals "_law_jobs" = some (some (.ref f22))) (l22 : K.lookup f22 = some ⟨oc22, od22, .func (PySem.W.fnOf "_law_jobs" "_law_jobs" (defArgs st__law_jobs) (defBody st__law_jobs) (defScope st__law_jobs) .none kV22 dc22 pm22 an22 cd22 ct22), sl22⟩) (e22 : PySem.W.codeIn K cd22 "_law_jobs" = true) (k22 : PySem.W.keepIn K (.ref f22) = true)
    (a23 : PySem.W.nsIn K mainGlobals "_law_ends" = some (some (.ref f23))) (l23 : K.lookup f23 = some ⟨oc23, od23, .func (PySem.W.fnOf "_law_ends" "_law_ends" (defArgs st__law_ends) (defBody st__law_ends) (defScope st__law_ends) .none kV23 dc23 pm23 an23 cd23 ct23), sl23⟩) (e23 : PySem.W.codeIn K cd23 "_law_ends" = true) (k23 : PySem.W.keepIn K (.ref f23) = true)
    (a24 : PySem.W.nsIn K mainGlobals "_law_best" = some (some (.ref f24))) (l24 : K.lookup f24 = some ⟨oc24, od24, .func (PySem.W.fnOf "_law_best" "_law_best" (defArgs st__law_best) (defBody st__law_best) (defScope st__law_best) .none kV24 dc24 pm24 an24 cd24 ct24), sl24⟩) (e24 : PySem.W.codeIn K cd24 "_law_best" = true) (k24 : PySem.W.keepIn K (.ref f24) = true)
    (a25 : PySem.W.nsIn K mainGlobals "_law_are_shifts_right" = some (some (.ref f25))) (l25 : K.lookup f25 = some ⟨oc25, od25, .func (PySem.W.fnOf "_law_are_shifts_right" "_law_are_shifts_right" (defArgs st__law_are_shifts_right) (defBody st__law_are_shifts_right) (defScope st__law_are_shifts_right) .none kV25 dc25 pm25 an25 cd25 ct25), sl25⟩) (e25 : PySem.W.codeIn K cd25 "_law_are_shifts_right" = true) (k25 : PySem.W.keepIn K (.ref f25) = true)
    (a26 : PySem.W.nsIn K mainGlobals "_law_are_three_right" = some (some (.ref f26))) (l26 : K.lookup f26 = some ⟨oc26, od26, .func (PySem.W.fnOf "_law_are_three_right" "_law_are_three_right" (defArgs st__law_are_three_right) (defBody st__law_are_three_right) (defScope st__law_are_three_right) .none kV26 dc26 pm26 an26 cd26 ct26), sl26⟩) (e26 : PySem.W.codeIn K cd26 "_law_are_three_right" = true) (k26 : PySem.W.keepIn K (.ref f26) = true)
    (a27 : PySem.W.nsIn K mainGlobals "law" = some (some (.ref f27))) (l27 : K.lookup f27 = some ⟨oc27, od27, .func (PySem.W.fnOf "law" "law" (defArgs st_law) (defBody st_law) (defScope st_law) .none kV27 dc27 pm27 an27 cd27 ct27), sl27⟩) (e27 : PySem.W.codeIn K cd27 "law" = true) (k27 : PySem.W.keepIn K (.ref f27) = true)
    (n_MOST_JOBS : PySem.W.nsIn K mainGlobals "MOST_JOBS" = some (some (.int 20 t_MOST_JOBS)))
    (n_MOST_TIME : PySem.W.nsIn K mainGlobals "MOST_TIME" = some (some (.int 1000 t_MOST_TIME)))
    (n_MOST_TRIED : PySem.W.nsIn K mainGlobals "MOST_TRIED" = some (some (.int 6 t_MOST_TRIED)))
    (n_PAIR : PySem.W.nsIn K mainGlobals "PAIR" = some (some (.int 2 t_PAIR)))
    (n_TRIPLE : PySem.W.nsIn K mainGlobals "TRIPLE" = some (some (.int 3 t_TRIPLE)))
    (z_len : PySem.W.nsIn K mainGlobals "len" = some none)
    (z_int : PySem.W.nsIn K mainGlobals "int" = some none)
    (z_abs : PySem.W.nsIn K mainGlobals "abs" = some none)
    (z_min : PySem.W.nsIn K mainGlobals "min" = some none)
    (z_max : PySem.W.nsIn K mainGlobals "max" = some none)
    (z_sum : PySem.W.nsIn K mainGlobals "sum" = some none)
    (z_any : PySem.W.nsIn K mainGlobals "any" = some none)
    (z_all : PySem.W.nsIn K mainGlobals "all" = some none)
    (z_list : PySem.W.nsIn K mainGlobals "list" = some none)
    (z_tuple : PySem.W.nsIn K mainGlobals "tuple" = some none)
    (z_sorted : PySem.W.nsIn K mainGlobals "sorted" = some none)
    (z_isinstance : PySem.W.nsIn K mainGlobals "isinstance" = some none)
    (z_repr : PySem.W.nsIn K mainGlobals "repr" = some none)
    (z_range : PySem.W.nsIn K mainGlobals "range" = some none)
    (z_enumerate : PySem.W.nsIn K mainGlobals "enumerate" = some none)
    (z_zip : PySem.W.nsIn K mainGlobals "zip" = some none)
    (z_set : PySem.W.nsIn K mainGlobals "set" = some none)
    (z_str : PySem.W.nsIn K mainGlobals "str" = some none)
    (z_bool : PySem.W.nsIn K mainGlobals "bool" = some none)
    (z_dict : PySem.W.nsIn K mainGlobals "dict" = some none) :
    ∃ fd : FuncData, (∀ (s : Shared) (v : Value), BindsTo s fd ⟨[v], []⟩ [("script", v)]) ∧ ∀ base : Heap, K.In base → base.Ns mainGlobals mg → FnG l.prog w K mg base 8 fa fd ["script"] (spM K g_law 1) := by
  have e := hfa.symm.trans (PySem.W.mg_of X G a27)
  cases e
  have B : Bl mg := ⟨PySem.W.mg_none_of X G z_len, PySem.W.mg_none_of X G z_int, PySem.W.mg_none_of X G z_abs, PySem.W.mg_none_of X G z_min, PySem.W.mg_none_of X G z_max, PySem.W.mg_none_of X G z_sum, PySem.W.mg_none_of X G z_any, PySem.W.mg_none_of X G z_all, PySem.W.mg_none_of X G z_list, PySem.W.mg_none_of X G z_tuple, PySem.W.mg_none_of X G z_sorted, PySem.W.mg_none_of X G z_isinstance, PySem.W.mg_none_of X G z_repr, PySem.W.mg_none_of X G z_range, PySem.W.mg_none_of X G z_enumerate, PySem.W.mg_none_of X G z_zip, PySem.W.mg_none_of X G z_set, PySem.W.mg_none_of X G z_str, PySem.W.mg_none_of X G z_bool, PySem.W.mg_none_of X G z_dict⟩
  have c_MOST_JOBS : CAt mg "MOST_JOBS" (.int 20) := ⟨_, (.int 20), PySem.W.mg_of X G n_MOST_JOBS, ⟨_, rfl⟩, fun _ _ _ _ => by simp only [RV]; try rfl⟩
  have c_MOST_TIME : CAt mg "MOST_TIME" (.int 1000) := ⟨_, (.int 1000), PySem.W.mg_of X G n_MOST_TIME, ⟨_, rfl⟩, fun _ _ _ _ => by simp only [RV]; try rfl⟩
  have c_MOST_TRIED : CAt mg "MOST_TRIED" (.int 6) := ⟨_, (.int 6), PySem.W.mg_of X G n_MOST_TRIED, ⟨_, rfl⟩, fun _ _ _ _ => by simp only [RV]; try rfl⟩
  have c_PAIR : CAt mg "PAIR" (.int 2) := ⟨_, (.int 2), PySem.W.mg_of X G n_PAIR, ⟨_, rfl⟩, fun _ _ _ _ => by simp only [RV]; try rfl⟩
  have c_TRIPLE : CAt mg "TRIPLE" (.int 3) := ⟨_, (.int 3), PySem.W.mg_of X G n_TRIPLE, ⟨_, rfl⟩, fun _ _ _ _ => by simp only [RV]; try rfl⟩
  have d_is_tuple : DefIn K mg "is_tuple" st_is_tuple ["value", "least", "most"] := ⟨⟨_, _, fun_mk l0 e0 k0, PySem.W.mg_of X G a0, (fun_mk (st := st_is_tuple) l0 e0 k0).binds fun _ _ _ _ _ _ us hl => match us, hl with | [_, _, _], _ => rfl⟩⟩
  have d_is_whole : DefIn K mg "is_whole" st_is_whole ["value"] := ⟨⟨_, _, fun_mk l1 e1 k1, PySem.W.mg_of X G a1, (fun_mk (st := st_is_whole) l1 e1 k1).binds fun _ _ _ _ _ _ us hl => match us, hl with | [_], _ => rfl⟩⟩
  have d_is_integer : DefIn K mg "is_integer" st_is_integer ["value", "low", "high"] := ⟨⟨_, _, fun_mk l2 e2 k2, PySem.W.mg_of X G a2, (fun_mk (st := st_is_integer) l2 e2 k2).binds fun _ _ _ _ _ _ us hl => match us, hl with | [_, _, _], _ => rfl⟩⟩
  have d_is_job : DefIn K mg "is_job" st_is_job ["machines", "value"] := ⟨⟨_, _, fun_mk l3 e3 k3, PySem.W.mg_of X G a3, (fun_mk (st := st_is_job) l3 e3 k3).binds fun _ _ _ _ _ _ us hl => match us, hl with | [_, _], _ => rfl⟩⟩
  have d_check_jobs : DefIn K mg "check_jobs" st_check_jobs ["value", "most", "machines"] := ⟨⟨_, _, fun_mk l4 e4 k4, PySem.W.mg_of X G a4, (fun_mk (st := st_check_jobs) l4 e4 k4).binds fun _ _ _ _ _ _ us hl => match us, hl with | [_, _, _], _ => rfl⟩⟩
  have d_is_order : DefIn K mg "is_order" st_is_order ["many", "value"] := ⟨⟨_, _, fun_mk l5 e5 k5, PySem.W.mg_of X G a5, (fun_mk (st := st_is_order) l5 e5 k5).binds fun _ _ _ _ _ _ us hl => match us, hl with | [_, _], _ => rfl⟩⟩
  have d_check_order : DefIn K mg "check_order" st_check_order ["many", "value"] := ⟨⟨_, _, fun_mk l6 e6 k6, PySem.W.mg_of X G a6, (fun_mk (st := st_check_order) l6 e6 k6).binds fun _ _ _ _ _ _ us hl => match us, hl with | [_, _], _ => rfl⟩⟩
  have d_ends_of : DefIn K mg "ends_of" st_ends_of ["jobs", "order"] := ⟨⟨_, _, fun_mk l7 e7 k7, PySem.W.mg_of X G a7, (fun_mk (st := st_ends_of) l7 e7 k7).binds fun _ _ _ _ _ _ us hl => match us, hl with | [_, _], _ => rfl⟩⟩
  have d_ends : DefIn K mg "ends" st_ends ["jobs", "order"] := ⟨⟨_, _, fun_mk l8 e8 k8, PySem.W.mg_of X G a8, (fun_mk (st := st_ends) l8 e8 k8).binds fun _ _ _ _ _ _ us hl => match us, hl with | [_, _], _ => rfl⟩⟩
  have d_waits : DefIn K mg "waits" st_waits ["jobs", "order"] := ⟨⟨_, _, fun_mk l9 e9 k9, PySem.W.mg_of X G a9, (fun_mk (st := st_waits) l9 e9 k9).binds fun _ _ _ _ _ _ us hl => match us, hl with | [_, _], _ => rfl⟩⟩
  have d_johnson : DefIn K mg "johnson" st_johnson ["jobs"] := ⟨⟨_, _, fun_mk l10 e10 k10, PySem.W.mg_of X G a10, (fun_mk (st := st_johnson) l10 e10 k10).binds fun _ _ _ _ _ _ us hl => match us, hl with | [_], _ => rfl⟩⟩
  have d_soonest : DefIn K mg "soonest" st_soonest ["jobs"] := ⟨⟨_, _, fun_mk l11 e11 k11, PySem.W.mg_of X G a11, (fun_mk (st := st_soonest) l11 e11 k11).binds fun _ _ _ _ _ _ us hl => match us, hl with | [_], _ => rfl⟩⟩
  have d_shows_soonest : DefIn K mg "shows_soonest" st_shows_soonest ["jobs", "value"] := ⟨⟨_, _, fun_mk l12 e12 k12, PySem.W.mg_of X G a12, (fun_mk (st := st_shows_soonest) l12 e12 k12).binds fun _ _ _ _ _ _ us hl => match us, hl with | [_, _], _ => rfl⟩⟩
  have d_all_orders : DefIn K mg "all_orders" st_all_orders ["many"] := ⟨⟨_, _, fun_mk l13 e13 k13, PySem.W.mg_of X G a13, (fun_mk (st := st_all_orders) l13 e13 k13).binds fun _ _ _ _ _ _ us hl => match us, hl with | [_], _ => rfl⟩⟩
  have d_soonest_three : DefIn K mg "soonest_three" st_soonest_three ["jobs"] := ⟨⟨_, _, fun_mk l14 e14 k14, PySem.W.mg_of X G a14, (fun_mk (st := st_soonest_three) l14 e14 k14).binds fun _ _ _ _ _ _ us hl => match us, hl with | [_], _ => rfl⟩⟩
  have d_middle_rule : DefIn K mg "middle_rule" st_middle_rule ["jobs"] := ⟨⟨_, _, fun_mk l15 e15 k15, PySem.W.mg_of X G a15, (fun_mk (st := st_middle_rule) l15 e15 k15).binds fun _ _ _ _ _ _ us hl => match us, hl with | [_], _ => rfl⟩⟩
  have d__law_pot : DefIn K mg "_law_pot" st__law_pot ["script", "place"] := ⟨⟨_, _, fun_mk l16 e16 k16, PySem.W.mg_of X G a16, (fun_mk (st := st__law_pot) l16 e16 k16).binds fun _ _ _ _ _ _ us hl => match us, hl with | [_, _], _ => rfl⟩⟩
  have d__law_take : DefIn K mg "_law_take" st__law_take ["pot", "upto"] := ⟨⟨_, _, fun_mk l17 e17 k17, PySem.W.mg_of X G a17, (fun_mk (st := st__law_take) l17 e17 k17).binds fun _ _ _ _ _ _ us hl => match us, hl with | [_, _], _ => rfl⟩⟩
  have d__law_of : DefIn K mg "_law_of" st__law_of ["pot", "some"] := ⟨⟨_, _, fun_mk l18 e18 k18, PySem.W.mg_of X G a18, (fun_mk (st := st__law_of) l18 e18 k18).binds fun _ _ _ _ _ _ us hl => match us, hl with | [_, _], _ => rfl⟩⟩
  have d__law_cells : DefIn K mg "_law_cells" st__law_cells ["script", "most"] := ⟨⟨_, _, fun_mk l19 e19 k19, PySem.W.mg_of X G a19, (fun_mk (st := st__law_cells) l19 e19 k19).binds fun _ _ _ _ _ _ us hl => match us, hl with | [_, _], _ => rfl⟩⟩
  have d__law_some : DefIn K mg "_law_some" st__law_some ["pot", "pool", "many"] := ⟨⟨_, _, fun_mk l20 e20 k20, PySem.W.mg_of X G a20, (fun_mk (st := st__law_some) l20 e20 k20).binds fun _ _ _ _ _ _ us hl => match us, hl with | [_, _, _], _ => rfl⟩⟩
  have d__law_is_bool : DefIn K mg "_law_is_bool" st__law_is_bool ["told", "due"] := ⟨⟨_, _, fun_mk l21 e21 k21, PySem.W.mg_of X G a21, (fun_mk (st := st__law_is_bool) l21 e21 k21).binds fun _ _ _ _ _ _ us hl => match us, hl with | [_, _], _ => rfl⟩⟩
  have d__law_jobs : DefIn K mg "_law_jobs" st__law_jobs ["pot", "many", "machines"] := ⟨⟨_, _, fun_mk l22 e22 k22, PySem.W.mg_of X G a22, (fun_mk (st := st__law_jobs) l22 e22 k22).binds fun _ _ _ _ _ _ us hl => match us, hl with | [_, _, _], _ => rfl⟩⟩
  have d__law_ends : DefIn K mg "_law_ends" st__law_ends ["jobs", "order", "begin"] := ⟨⟨_, _, fun_mk l23 e23 k23, PySem.W.mg_of X G a23, (fun_mk (st := st__law_ends) l23 e23 k23).binds fun _ _ _ _ _ _ us hl => match us, hl with | [_, _, _], _ => rfl⟩⟩
  have d__law_best : DefIn K mg "_law_best" st__law_best ["jobs"] := ⟨⟨_, _, fun_mk l24 e24 k24, PySem.W.mg_of X G a24, (fun_mk (st := st__law_best) l24 e24 k24).binds fun _ _ _ _ _ _ us hl => match us, hl with | [_], _ => rfl⟩⟩
  have d__law_are_shifts_right : DefIn K mg "_law_are_shifts_right" st__law_are_shifts_right ["pot", "one", "other"] := ⟨⟨_, _, fun_mk l25 e25 k25, PySem.W.mg_of X G a25, (fun_mk (st := st__law_are_shifts_right) l25 e25 k25).binds fun _ _ _ _ _ _ us hl => match us, hl with | [_, _, _], _ => rfl⟩⟩
  have d__law_are_three_right : DefIn K mg "_law_are_three_right" st__law_are_three_right ["pot"] := ⟨⟨_, _, fun_mk l26 e26 k26, PySem.W.mg_of X G a26, (fun_mk (st := st__law_are_three_right) l26 e26 k26).binds fun _ _ _ _ _ _ us hl => match us, hl with | [_], _ => rfl⟩⟩
  have FL := fun_mk (st := st_law) l27 e27 k27
  refine ⟨PySem.W.fnOf "law" "law" (defArgs st_law) (defBody st_law) (defScope st_law) .none kV27 dc27 pm27 an27 cd27 ct27, fun s v => .of_eq rfl, fun base _ _ => ?_⟩
  have h_is_tuple : Has l.prog w K mg base 1 "is_tuple" 3 g_is_tuple := (has_is_tuple (k := 0) B   d_is_tuple)
  have h_is_whole : Has l.prog w K mg base 1 "is_whole" 1 g_is_whole := (has_is_whole (k := 0) B   d_is_whole)
  have h_is_integer : Has l.prog w K mg base 2 "is_integer" 3 g_is_integer := (has_is_integer (k := 1) B  (h_is_whole.mono (by decide)) d_is_integer)
  have h_is_job : Has l.prog w K mg base 3 "is_job" 2 g_is_job := (has_is_job (k := 2) B c_MOST_TIME (h_is_integer.mono (by decide)) (h_is_tuple.mono (by decide)) d_is_job)
  have h_check_jobs : Has l.prog w K mg base 4 "check_jobs" 3 g_check_jobs := (has_check_jobs (k := 3) B  (h_is_job.mono (by decide)) (h_is_tuple.mono (by decide)) d_check_jobs)
  have h_is_order : Has l.prog w K mg base 3 "is_order" 2 g_is_order := (has_is_order (k := 2) B  (h_is_integer.mono (by decide)) (h_is_tuple.mono (by decide)) d_is_order)
  have h_check_order : Has l.prog w K mg base 4 "check_order" 2 g_check_order := (has_check_order (k := 3) B  (h_is_order.mono (by decide)) d_check_order)
  have h_ends_of : Has l.prog w K mg base 1 "ends_of" 2 g_ends_of := (has_ends_of (k := 0) B   d_ends_of)
  have h_ends : Has l.prog w K mg base 5 "ends" 2 g_ends := (has_ends (k := 4) B c_MOST_JOBS c_PAIR (h_check_jobs.mono (by decide)) (h_check_order.mono (by decide)) (h_ends_of.mono (by decide)) d_ends)
  have h_waits : Has l.prog w K mg base 6 "waits" 2 g_waits := (has_waits (k := 5) B  (h_ends.mono (by decide)) d_waits)
  have h_johnson : Has l.prog w K mg base 1 "johnson" 1 g_johnson := (has_johnson (k := 0) B   d_johnson)
  have h_soonest : Has l.prog w K mg base 5 "soonest" 1 g_soonest := (has_soonest (k := 4) B c_MOST_JOBS c_PAIR (h_check_jobs.mono (by decide)) (h_ends_of.mono (by decide)) (h_johnson.mono (by decide)) d_soonest)
  have h_shows_soonest : Has l.prog w K mg base 6 "shows_soonest" 2 g_shows_soonest := (has_shows_soonest (k := 5) B c_PAIR (h_ends_of.mono (by decide)) (h_is_integer.mono (by decide)) (h_is_order.mono (by decide)) (h_is_tuple.mono (by decide)) (h_soonest.mono (by decide)) d_shows_soonest)
  have h_all_orders : Has l.prog w K mg base 1 "all_orders" 1 g_all_orders := (has_all_orders (k := 0) B   d_all_orders)
  have h_soonest_three : Has l.prog w K mg base 5 "soonest_three" 1 g_soonest_three := (has_soonest_three (k := 4) B c_MOST_TRIED c_PAIR c_TRIPLE (h_all_orders.mono (by decide)) (h_check_jobs.mono (by decide)) (h_ends_of.mono (by decide)) d_soonest_three)
  have h_middle_rule : Has l.prog w K mg base 5 "middle_rule" 1 g_middle_rule := (has_middle_rule (k := 4) B c_MOST_JOBS c_PAIR c_TRIPLE (h_check_jobs.mono (by decide)) (h_ends_of.mono (by decide)) (h_johnson.mono (by decide)) d_middle_rule)
  have h__law_pot : Has l.prog w K mg base 1 "_law_pot" 2 potG := (has_pot makes_pot (has0__law_pot (k := 0) B   d__law_pot))
  have h__law_take : Has l.prog w K mg base 1 "_law_take" 2 g__law_take := (has__law_take (k := 0) B   d__law_take)
  have h__law_of : Has l.prog w K mg base 2 "_law_of" 2 g__law_of := (has__law_of (k := 1) B  (h__law_take.mono (by decide)) d__law_of)
  have h__law_cells : Has l.prog w K mg base 1 "_law_cells" 2 g__law_cells := (has__law_cells (k := 0) B   d__law_cells)
  have h__law_some : Has l.prog w K mg base 2 "_law_some" 3 g__law_some := (has__law_some (k := 1) B  (h__law_take.mono (by decide)) d__law_some)
  have h__law_is_bool : Has l.prog w K mg base 1 "_law_is_bool" 2 g__law_is_bool := (has__law_is_bool (k := 0) B   d__law_is_bool)
  have h__law_jobs : Has l.prog w K mg base 3 "_law_jobs" 3 g__law_jobs := (has__law_jobs (k := 2) B  (h__law_of.mono (by decide)) (h__law_take.mono (by decide)) d__law_jobs)
  have h__law_ends : Has l.prog w K mg base 1 "_law_ends" 3 g__law_ends := (has__law_ends (k := 0) B   d__law_ends)
  have h__law_best : Has l.prog w K mg base 2 "_law_best" 1 g__law_best := (has__law_best (k := 1) B  (h__law_ends.mono (by decide)) d__law_best)
  have h__law_are_shifts_right : Has l.prog w K mg base 7 "_law_are_shifts_right" 3 g__law_are_shifts_right := (has__law_are_shifts_right (k := 6) B  (h__law_best.mono (by decide)) (h__law_ends.mono (by decide)) (h__law_is_bool.mono (by decide)) (h__law_some.mono (by decide)) (h__law_take.mono (by decide)) (h_ends.mono (by decide)) (h_shows_soonest.mono (by decide)) (h_soonest.mono (by decide)) (h_waits.mono (by decide)) d__law_are_shifts_right)
  have h__law_are_three_right : Has l.prog w K mg base 6 "_law_are_three_right" 1 g__law_are_three_right := (has__law_are_three_right (k := 5) B  (h__law_ends.mono (by decide)) (h__law_jobs.mono (by decide)) (h__law_of.mono (by decide)) (h_middle_rule.mono (by decide)) (h_soonest_three.mono (by decide)) d__law_are_three_right)
  exact fn_law B  (h__law_are_shifts_right.mono (by decide)) (h__law_are_three_right.mono (by decide)) (h__law_cells.mono (by decide)) (h__law_jobs.mono (by decide)) (h__law_pot.mono (by decide)) (h__law_take.mono (by decide)) FL
end Mi.K19
open PySem PySem.W PyProof.Rows
set_option maxHeartbeats 0 in
theorem PySem.Challenge.cw_drybytheirhour_k19_whole_jobs_of_two_shi_holds : PySem.Challenge.rw_drybytheirhour_k19_whole_jobs_of_two_shi.Holds := by
  w_on; o_law; k_head; (case hw => w_witness2)
  k_fill
  refine Mi.walkM (l := PySem.Challenge.rw_drybytheirhour_k19_whole_jobs_of_two_shi) (n := 63) (k := 8) (x := "script") (g := Mi.K19.g_law) rfl (by decide) rfl ⟨rfl, by decide, by decide⟩ (fun w h Y => PySem.W.kIn_of Y) ?F (fun ns h => Mi.K19.law_true ns h)
  case F =>
    intro w mg fa h KX G hmg
    refine' Mi.K19.all_mk KX G hmg ?a0 ?l0 ?e0 ?k0 ?a1 ?l1 ?e1 ?k1 ?a2 ?l2 ?e2 ?k2 ?a3 ?l3 ?e3 ?k3 ?a4 ?l4 ?e4 ?k4 ?a5 ?l5 ?e5 ?k5 ?a6 ?l6 ?e6 ?k6 ?a7 ?l7 ?e7 ?k7 ?a8 ?l8 ?e8 ?k8 ?a9 ?l9 ?e9 ?k9 ?a10 ?l10 ?e10 ?k10 ?a11 ?l11 ?e11 ?k11 ?a12 ?l12 ?e12 ?k12 ?a13 ?l13 ?e13 ?k13 ?a14 ?l14 ?e14 ?k14 ?a15 ?l15 ?e15 ?k15 ?a16 ?l16 ?e16 ?k16 ?a17 ?l17 ?e17 ?k17 ?a18 ?l18 ?e18 ?k18 ?a19 ?l19 ?e19 ?k19 ?a20 ?l20 ?e20 ?k20 ?a21 ?l21 ?e21 ?k21 ?a22 ?l22 ?e22 ?k22 ?a23 ?l23 ?e23 ?k23 ?a24 ?l24 ?e24 ?k24 ?a25 ?l25 ?e25 ?k25 ?a26 ?l26 ?e26 ?k26 ?a27 ?l27 ?e27 ?k27 ?n_MOST_JOBS ?n_MOST_TIME ?n_MOST_TRIED ?n_PAIR ?n_TRIPLE ?z_len ?z_int ?z_abs ?z_min ?z_max ?z_sum ?z_any ?z_all ?z_list ?z_tuple ?z_sorted ?z_isinstance ?z_repr ?z_range ?z_enumerate ?z_zip ?z_set ?z_str ?z_bool ?z_dict
    (case a0 => k_is); (case l0 => k_is); (case e0 => k_is); (case k0 => k_is); (case a1 => k_is); (case l1 => k_is); (case e1 => k_is); (case k1 => k_is); (case a2 => k_is); (case l2 => k_is); (case e2 => k_is); (case k2 => k_is); (case a3 => k_is); (case l3 => k_is); (case e3 => k_is); (case k3 => k_is); (case a4 => k_is); (case l4 => k_is); (case e4 => k_is); (case k4 => k_is); (case a5 => k_is); (case l5 => k_is); (case e5 => k_is); (case k5 => k_is); (case a6 => k_is); (case l6 => k_is); (case e6 => k_is); (case k6 => k_is); (case a7 => k_is); (case l7 => k_is); (case e7 => k_is); (case k7 => k_is); (case a8 => k_is); (case l8 => k_is); (case e8 => k_is); (case k8 => k_is); (case a9 => k_is); (case l9 => k_is); (case e9 => k_is); (case k9 => k_is); (case a10 => k_is); (case l10 => k_is); (case e10 => k_is); (case k10 => k_is); (case a11 => k_is); (case l11 => k_is); (case e11 => k_is); (case k11 => k_is); (case a12 => k_is); (case l12 => k_is); (case e12 => k_is); (case k12 => k_is); (case a13 => k_is); (case l13 => k_is); (case e13 => k_is); (case k13 => k_is); (case a14 => k_is); (case l14 => k_is); (case e14 => k_is); (case k14 => k_is); (case a15 => k_is); (case l15 => k_is); (case e15 => k_is); (case k15 => k_is); (case a16 => k_is); (case l16 => k_is); (case e16 => k_is); (case k16 => k_is); (case a17 => k_is); (case l17 => k_is); (case e17 => k_is); (case k17 => k_is); (case a18 => k_is); (case l18 => k_is); (case e18 => k_is); (case k18 => k_is); (case a19 => k_is); (case l19 => k_is); (case e19 => k_is); (case k19 => k_is); (case a20 => k_is); (case l20 => k_is); (case e20 => k_is); (case k20 => k_is); (case a21 => k_is); (case l21 => k_is); (case e21 => k_is); (case k21 => k_is); (case a22 => k_is); (case l22 => k_is); (case e22 => k_is); (case k22 => k_is); (case a23 => k_is); (case l23 => k_is); (case e23 => k_is); (case k23 => k_is); (case a24 => k_is); (case l24 => k_is); (case e24 => k_is); (case k24 => k_is); (case a25 => k_is); (case l25 => k_is); (case e25 => k_is); (case k25 => k_is); (case a26 => k_is); (case l26 => k_is); (case e26 => k_is); (case k26 => k_is); (case a27 => k_is); (case l27 => k_is); (case e27 => k_is); (case k27 => k_is); (case n_MOST_JOBS => k_is); (case n_MOST_TIME => k_is); (case n_MOST_TRIED => k_is); (case n_PAIR => k_is); (case n_TRIPLE => k_is); (case z_len => k_is); (case z_int => k_is); (case z_abs => k_is); (case z_min => k_is); (case z_max => k_is); (case z_sum => k_is); (case z_any => k_is); (case z_all => k_is); (case z_list => k_is); (case z_tuple => k_is); (case z_sorted => k_is); (case z_isinstance => k_is); (case z_repr => k_is); (case z_range => k_is); (case z_enumerate => k_is); (case z_zip => k_is); (case z_set => k_is); (case z_str => k_is); (case z_bool => k_is); (case z_dict => k_is)
