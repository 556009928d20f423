import PyProof.Rows.All
import Wide.All
import OpenK.AllK
import Wide.FinOn
import HandS.ForMost
import HandS.Exc
import HandS.TryMany
import HandS.Lambda
import HandS.CallSlots
import HandS.CallLocal
import HandS.Deep
import HandS.TupAny
import HandS.Wide
import HandS.Codes
import HandS.IsInst
import HandS.WordsDict
import HandS.StrMore
import HandS.Replace
import HandS.Flow
import HandS.ExcOwn
import HandS.Iter
import KE.GoesNew
import KE.GoesMore
import HandS.Defaults
import HandS.EndTab
import HandS.HeadWalk
import HandS.RaiseMore
import HandS.SortInts
import HandS.SortRule
import HandS.Sort
import HandS.TupMul
import HandS.TupSets
import HandS.Dict
import HandS.HeadHook4
import HandS.Head2
import PySem.Challenge.RW_stillread_k01_whole_names_and_their_cell
set_option Elab.async false
set_option linter.all false
section
set_option maxRecDepth 100000
set_option maxHeartbeats 4000000
/-! MiCore: pure values, a store, results; their relation to the layer's abstract heap; readings of combinators. -/
namespace Mi
open PySem PySem.Spec PyProof.Rows L2

/-! ### pure values -/
/-- a value by what it is: tuples whole, lists and dicts by their place in the store, defs by a number -/
inductive PV where
  | non | bl (b : Bool) | int (i : Int) | str (x : List Nat) | tup (xs : List PV) | ref (n : Nat) | fn (f : Nat) | thk
instance : Inhabited PV := ⟨.non⟩
/-- what stands in the store -/
inductive SO where
  | lst (xs : List PV)
  | dct (kvs : List (Key × PV))
  | fz (xs : List PV)
abbrev Sto := List SO
/-- an exception: its class's number, its own field -/
structure Ex where
  cls : Nat
  fld : Option (Str × PV)
inductive Res (α : Type) where
  | ok (a : α) (st : Sto)
  | exc (e : Ex) (st : Sto)
  | bad
abbrev Env := List (Option PV)
inductive RS where
  | nx (env : Env) (st : Sto)
  | rt (v : PV) (st : Sto)
  | bk (env : Env) (st : Sto)
  | ct (env : Env) (st : Sto)
  | exc (e : Ex) (env : Env) (st : Sto)
  | bad
abbrev Th := Sto → Res PV
/-- what a piece of syntax does -/
abbrev Dn (α : Type) := Th → Env → Sto → Res α
abbrev DE := Dn PV
abbrev DB := Dn Bool
abbrev DL := Dn (List PV)
abbrev DS := Th → Env → Sto → RS
def Res.bind {α β : Type} : Res α → (α → Sto → Res β) → Res β
  | .ok a st, f => f a st
  | .exc e st, _ => .exc e st
  | .bad, _ => .bad

/-! ### the relation -/
structure Wd where
  K : PySem.W.Frag
  fa : Nat → Option Addr
  ca : Nat → Option Value
  th : Addr
  T : List (Addr × Str)
mutual
def RV (W : Wd) (H : Hp) (ρ : Nat → Addr) (n : Nat) : PV → V → Prop
  | .non, x => x = .non
  | .bl b, x => x = .bl b
  | .int i, x => x = .int i
  | .str s, x => x = .str ⟨s.toArray⟩
  | .tup xs, x => ∃ a vs, x = .ref a ∧ SqT W.K H a vs ∧ RVs W H ρ n xs vs
  | .ref k, x => k < n ∧ x = .ref (ρ k)
  | .fn f, x => ∃ a, W.fa f = some a ∧ x = .ref a
  | .thk, x => x = .ref W.th
def RVs (W : Wd) (H : Hp) (ρ : Nat → Addr) (n : Nat) : List PV → List V → Prop
  | [], vs => vs = []
  | p :: ps, vs => ∃ v r, vs = v :: r ∧ RV W H ρ n p v ∧ RVs W H ρ n ps r
end
/-- tuples and what is locked stay -/
structure HX (H H' : Hp) : Prop where
  tup : ∀ b xs, H b = some (.tup xs) → H' b = some (.tup xs)
  frz : ∀ b o u, H b = some (.frz o u) → H' b = some (.frz o u)
theorem HX.refl (H : Hp) : HX H H := ⟨fun _ _ h => h, fun _ _ _ h => h⟩
theorem HX.trans {H H1 H2 : Hp} (a : HX H H1) (b : HX H1 H2) : HX H H2 := ⟨fun c xs h => b.tup c xs (a.tup c xs h), fun c o u h => b.frz c o u (a.frz c o u h)⟩
theorem HX.sqT {K : PySem.W.Frag} {H H' : Hp} (x : HX H H') {a : Addr} {vs : List V} (h : SqT K H a vs) : SqT K H' a vs := by
  rcases h with (h | ⟨o, h⟩) | h
  · exact .inl (.inl (x.tup _ _ h))
  · exact .inl (.inr ⟨o, x.frz _ _ _ h⟩)
  · exact .inr h
theorem HX.new {H : Hp} {p : Addr} {o : HO} (h : H p = none) : HX H (upd H p o) :=
  ⟨fun b xs e => by rw [upd_ne (ne_of_none e h)]; exact e, fun b ob u e => by rw [upd_ne (ne_of_none e h)]; exact e⟩
/-- an object that is written: neither a tuple nor locked -/
theorem HX.mut {H : Hp} {p : Addr} {o u : HO} (h : H p = some u) (h1 : ∀ xs, u ≠ .tup xs) (h2 : ∀ ob w, u ≠ .frz ob w) : HX H (upd H p o) :=
  ⟨fun b xs e => by rw [upd_ne (ne_of e h (fun z => h1 xs z.symm))]; exact e, fun b ob w e => by rw [upd_ne (ne_of e h (fun z => h2 ob w z.symm))]; exact e⟩
def Agr (n : Nat) (ρ ρ' : Nat → Addr) : Prop := ∀ i, i < n → ρ' i = ρ i
theorem Agr.refl (n : Nat) (ρ : Nat → Addr) : Agr n ρ ρ := fun _ _ => rfl

section
variable {W : Wd} {H H' : Hp} {ρ ρ' : Nat → Addr} {n n' : Nat}
mutual
theorem RV.mono (x : HX H H') (ag : Agr n ρ ρ') (le : n ≤ n') : ∀ (p : PV) (v : V), RV W H ρ n p v → RV W H' ρ' n' p v
  | .non, _, h => h
  | .bl _, _, h => h
  | .int _, _, h => h
  | .str _, _, h => h
  | .tup xs, _, ⟨a, vs, e, s, r⟩ => ⟨a, vs, e, x.sqT s, RVs.mono x ag le xs vs r⟩
  | .ref k, _, ⟨l, e⟩ => ⟨Nat.lt_of_lt_of_le l le, by rw [ag k l]; exact e⟩
  | .fn _, _, h => h
  | .thk, _, h => h
theorem RVs.mono (x : HX H H') (ag : Agr n ρ ρ') (le : n ≤ n') : ∀ (ps : List PV) (vs : List V), RVs W H ρ n ps vs → RVs W H' ρ' n' ps vs
  | [], _, h => h
  | p :: ps, _, ⟨v, r, e, h, t⟩ => ⟨v, r, e, RV.mono x ag le p v h, RVs.mono x ag le ps r t⟩
end
theorem RVs.length : ∀ {ps : List PV} {vs : List V}, RVs W H ρ n ps vs → ps.length = vs.length
  | [], _, h => by
    have h : _ = [] := h
    rw [h] <;> rfl
  | _ :: ps, _, ⟨v, r, e, _, t⟩ => by rw [e, List.length_cons, List.length_cons, RVs.length t]
theorem RVs.get : ∀ {ps : List PV} {vs : List V} {i : Nat} {p : PV}, RVs W H ρ n ps vs → ps[i]? = some p → ∃ v, vs[i]? = some v ∧ RV W H ρ n p v
  | [], _, _, _, _, e => by simp at e
  | _ :: _, _, 0, _, ⟨v, r, e1, h, t⟩, e => by
    simp at e
    subst e e1
    exact ⟨v, rfl, h⟩
  | _ :: _, _, i + 1, _, ⟨v, r, e1, h, t⟩, e => by
    subst e1
    obtain ⟨v', h1, h2⟩ := RVs.get (i := i) t (by simpa using e)
    exact ⟨v', by simpa using h1, h2⟩
theorem RVs.set {p : PV} {v : V} (hp : RV W H ρ n p v) : ∀ {ps : List PV} {vs : List V} (i : Nat), RVs W H ρ n ps vs → RVs W H ρ n (ps.set i p) (vs.set i v)
  | [], _, _, h => by
    have h : _ = [] := h
    subst h
    exact rfl
  | _ :: _, _, 0, ⟨w, r, e, h, t⟩ => by
    subst e
    exact ⟨v, r, rfl, hp, t⟩
  | _ :: _, _, i + 1, ⟨w, r, e, h, t⟩ => by
    subst e
    exact ⟨w, _, rfl, h, RVs.set hp i t⟩
theorem RVs.append : ∀ {ps qs : List PV} {vs us : List V}, RVs W H ρ n ps vs → RVs W H ρ n qs us → RVs W H ρ n (ps ++ qs) (vs ++ us)
  | [], _, _, _, h, t => by
    have h : _ = [] := h
    subst h
    exact t
  | _ :: _, _, _, _, ⟨w, r, e, h, t⟩, q => by
    subst e
    exact ⟨w, _, rfl, h, RVs.append t q⟩
theorem RVs.take : ∀ {ps : List PV} {vs : List V} (k : Nat), RVs W H ρ n ps vs → RVs W H ρ n (ps.take k) (vs.take k)
  | [], _, k, h => by
    have h : _ = [] := h
    subst h
    cases k <;> exact rfl
  | _ :: _, _, 0, _ => rfl
  | _ :: _, _, k + 1, ⟨w, r, e, h, t⟩ => by
    subst e
    exact ⟨w, _, rfl, h, RVs.take k t⟩
theorem RVs.drop : ∀ {ps : List PV} {vs : List V} (k : Nat), RVs W H ρ n ps vs → RVs W H ρ n (ps.drop k) (vs.drop k)
  | [], _, k, h => by
    have h : _ = [] := h
    subst h
    cases k <;> exact rfl
  | _ :: _, _, 0, h => h
  | _ :: _, _, k + 1, ⟨w, r, e, h, t⟩ => by
    subst e
    exact RVs.drop k t
theorem RVs.one {p : PV} {vs : List V} (h : RVs W H ρ n [p] vs) : ∃ v, vs = [v] ∧ RV W H ρ n p v := by
  obtain ⟨v, r, e, h, t⟩ := h
  have t : r = [] := t
  subst e t
  exact ⟨v, rfl, h⟩
theorem RVs.two {p q : PV} {vs : List V} (h : RVs W H ρ n [p, q] vs) : ∃ v w, vs = [v, w] ∧ RV W H ρ n p v ∧ RV W H ρ n q w := by
  obtain ⟨v, r, e, h, t⟩ := h
  obtain ⟨w, rfl, h2⟩ := RVs.one t
  exact ⟨v, w, e, h, h2⟩
theorem RVs.nil {vs : List V} (h : RVs W H ρ n [] vs) : vs = [] := h
theorem RVs.three {p q u : PV} {vs : List V} (h : RVs W H ρ n [p, q, u] vs) : ∃ v w x, vs = [v, w, x] ∧ RV W H ρ n p v ∧ RV W H ρ n q w ∧ RV W H ρ n u x := by
  obtain ⟨v, r, e, h, t⟩ := h
  obtain ⟨w, x, rfl, h2, h3⟩ := RVs.two t
  exact ⟨v, w, x, e, h, h2, h3⟩
end

/-- the pairs of a dict -/
def RKs (W : Wd) (H : Hp) (ρ : Nat → Addr) (n : Nat) : List (Key × PV) → List (Key × V) → Prop
  | [], vs => vs = []
  | (k, p) :: ps, vs => ∃ v r, vs = (k, v) :: r ∧ RV W H ρ n p v ∧ RKs W H ρ n ps r
theorem RKs.mono {W : Wd} {H H' : Hp} {ρ ρ' : Nat → Addr} {n n' : Nat} (x : HX H H') (ag : Agr n ρ ρ') (le : n ≤ n') : ∀ (ps : List (Key × PV)) (vs : List (Key × V)), RKs W H ρ n ps vs → RKs W H' ρ' n' ps vs
  | [], _, h => h
  | (k, p) :: ps, _, ⟨v, r, e, h, t⟩ => ⟨v, r, e, h.mono x ag le, RKs.mono x ag le ps r t⟩
/-- a list that nobody writes -/
def FzL (K : PySem.W.Frag) (H : Hp) (a : Addr) (vs : List V) : Prop :=
  (∃ o, H a = some (.frz o (.lst vs))) ∨ ∃ (o : Obj) (its : Array Value) (n : Nat), K.lookup a = some o ∧ o.cls = .type "list" ∧ o.dict = none ∧ o.data = .seq its n ∧ its.size ≤ sizeLine ∧ Vals vs its.toList
theorem FzL.sq {K : PySem.W.Frag} {H : Hp} {a : Addr} {vs : List V} (h : FzL K H a vs) : SqL K H a vs := by
  rcases h with ⟨o, h⟩ | h
  · exact .inl (.inr ⟨o, h⟩)
  · exact .inr h
theorem FzL.mono {K : PySem.W.Frag} {H H' : Hp} {a : Addr} {vs : List V} (x : HX H H') (h : FzL K H a vs) : FzL K H' a vs := by
  rcases h with ⟨o, h⟩ | h
  · exact .inl ⟨o, x.frz _ _ _ h⟩
  · exact .inr h
/-- an object of the store stands at a -/
def RO (W : Wd) (H : Hp) (ρ : Nat → Addr) (n : Nat) : SO → Addr → Prop
  | .lst xs, a => ∃ vs, H a = some (.lst vs) ∧ RVs W H ρ n xs vs
  | .dct kvs, a => ∃ vs, H a = some (.dK vs) ∧ RKs W H ρ n kvs vs
  | .fz xs, a => ∃ vs, FzL W.K H a vs ∧ RVs W H ρ n xs vs
def SO.mut : SO → Bool
  | .fz _ => false
  | _ => true
structure RSt (W : Wd) (H : Hp) (ρ : Nat → Addr) (st : Sto) : Prop where
  inj : ∀ (i j : Nat) (o u : SO), st[i]? = some o → st[j]? = some u → o.mut = true → u.mut = true → ρ i = ρ j → i = j
  obj : ∀ (i : Nat) (o : SO), st[i]? = some o → RO W H ρ st.length o (ρ i)
  tab : LamX.Tabs W.T H
/-- from a state to a later one -/
structure Stp (W : Wd) (H : Hp) (ρ : Nat → Addr) (n : Nat) (H' : Hp) (ρ' : Nat → Addr) (st' : Sto) : Prop where
  rs : RSt W H' ρ' st'
  ext : HX H H'
  agr : Agr n ρ ρ'
  len : n ≤ st'.length
theorem Stp.refl {W : Wd} {H : Hp} {ρ : Nat → Addr} {st : Sto} (r : RSt W H ρ st) : Stp W H ρ st.length H ρ st := ⟨r, .refl _, .refl _ _, Nat.le_refl _⟩
theorem Stp.trans {W : Wd} {H H1 H2 : Hp} {ρ ρ1 ρ2 : Nat → Addr} {n : Nat} {st1 st2 : Sto} (a : Stp W H ρ n H1 ρ1 st1) (b : Stp W H1 ρ1 st1.length H2 ρ2 st2) : Stp W H ρ n H2 ρ2 st2 :=
  ⟨b.rs, a.ext.trans b.ext, fun i h => by rw [b.agr i (Nat.lt_of_lt_of_le h a.len), a.agr i h], Nat.le_trans a.len b.len⟩
theorem Stp.rv {W : Wd} {H H' : Hp} {ρ ρ' : Nat → Addr} {n : Nat} {st' : Sto} (s : Stp W H ρ n H' ρ' st') {p : PV} {v : V} (h : RV W H ρ n p v) : RV W H' ρ' st'.length p v := h.mono s.ext s.agr s.len
theorem Stp.rvs {W : Wd} {H H' : Hp} {ρ ρ' : Nat → Addr} {n : Nat} {st' : Sto} (s : Stp W H ρ n H' ρ' st') {p : List PV} {v : List V} (h : RVs W H ρ n p v) : RVs W H' ρ' st'.length p v := h.mono s.ext s.agr s.len
/-- an exception -/
def RX (W : Wd) (H : Hp) (ρ : Nat → Addr) (n : Nat) (e : Ex) (c : Value) (d : Option Addr) : Prop :=
  W.ca e.cls = some c ∧ match e.fld with
    | none => d = none
    | some (f, p) => ∃ dd v, d = some dd ∧ H dd = some (.xd [(f, v)]) ∧ RV W H ρ n p v
structure REnv (W : Wd) (H : Hp) (ρ : Nat → Addr) (n : Nat) (env : Env) (σ : L2.St) : Prop where
  len : env.length = σ.length
  get : ∀ (i : Nat) (p : PV), env[i]? = some (some p) → ∃ v : V, σ[i]? = some (some v) ∧ RV W H ρ n p v
theorem REnv.mono {W : Wd} {H H' : Hp} {ρ ρ' : Nat → Addr} {n n' : Nat} {env : Env} {σ : L2.St} (x : HX H H') (ag : Agr n ρ ρ') (le : n ≤ n') (h : REnv W H ρ n env σ) : REnv W H' ρ' n' env σ :=
  ⟨h.len, fun i p e => let ⟨v, h1, h2⟩ := h.get i p e; ⟨v, h1, h2.mono x ag le⟩⟩
theorem Stp.renv {W : Wd} {H H' : Hp} {ρ ρ' : Nat → Addr} {n : Nat} {st' : Sto} (s : Stp W H ρ n H' ρ' st') {env : Env} {σ : L2.St} (h : REnv W H ρ n env σ) : REnv W H' ρ' st'.length env σ := h.mono s.ext s.agr s.len
theorem REnv.set {W : Wd} {H : Hp} {ρ : Nat → Addr} {n : Nat} {env : Env} {σ : L2.St} {p : PV} {v : V} (h : REnv W H ρ n env σ) (i : Nat) (r : RV W H ρ n p v) : REnv W H ρ n (env.set i (some p)) (σ.set i (some v)) := by
  refine ⟨by rw [List.length_set, List.length_set, h.len], fun j q e => ?_⟩
  by_cases hj : i = j
  · subst hj
    by_cases hl : i < env.length
    · rw [List.getElem?_set_self hl] at e
      cases e
      exact ⟨v, by rw [List.getElem?_set_self (by rw [← h.len]; exact hl)], r⟩
    · rw [List.getElem?_eq_none (by rw [List.length_set]; exact Nat.le_of_not_lt hl)] at e
      cases e
  · rw [List.getElem?_set_ne hj] at e
    obtain ⟨w, h1, h2⟩ := h.get j q e
    exact ⟨w, by rw [List.getElem?_set_ne hj]; exact h1, h2⟩
/-- forgetting slots -/
def wipeE (env : Env) : List Nat → Env
  | [] => env
  | v :: vs => (wipeE env vs).set v none
theorem REnv.wipe {W : Wd} {H : Hp} {ρ : Nat → Addr} {n : Nat} {env : Env} {σ : L2.St} (h : REnv W H ρ n env σ) : ∀ vs : List Nat, REnv W H ρ n (wipeE env vs) (L2.wipe σ vs)
  | [] => h
  | v :: vs => by
    have r := REnv.wipe h vs
    refine ⟨by show (List.set _ _ _).length = (List.set _ _ _).length; rw [List.length_set, List.length_set, r.len], fun j q e => ?_⟩
    have e : ((wipeE env vs).set v none)[j]? = some (some q) := e
    by_cases hj : v = j
    · subst hj
      by_cases hl : v < (wipeE env vs).length
      · rw [List.getElem?_set_self hl] at e
        cases e
      · rw [List.getElem?_eq_none (by rw [List.length_set]; exact Nat.le_of_not_lt hl)] at e
        cases e
    · rw [List.getElem?_set_ne hj] at e
      obtain ⟨w, h1, h2⟩ := r.get j q e
      exact ⟨w, by show ((L2.wipe σ vs).set v none)[j]? = _; rw [List.getElem?_set_ne hj]; exact h1, h2⟩

/-! ### readings -/
/-- what a call of what was handed in does -/
abbrev TR := Hp → (Nat → Addr) → Nat → Th → Prop
def TR.Stays (W : Wd) (t : TR) : Prop := ∀ H ρ n th H' ρ' st', Stp W H ρ n H' ρ' st' → t H ρ n th → t H' ρ' st'.length th
section
variable (W : Wd)
def gR {α β : Type} (R : Hp → (Nat → Addr) → Nat → α → β → Prop) (E : XK) (r : Res α) (H : Hp) (ρ : Nat → Addr) (n : Nat) (Q : β → Hp → Prop) : Prop := match r with
  | .ok v st' => ∀ H' ρ' x, Stp W H ρ n H' ρ' st' → R H' ρ' st'.length v x → Q x H'
  | .exc e st' => ∀ H' ρ' c d, Stp W H ρ n H' ρ' st' → RX W H' ρ' st'.length e c d → E c d H'
  | .bad => False
abbrev gE (E : XK) (r : Res PV) (H : Hp) (ρ : Nat → Addr) (n : Nat) (Q : VK) : Prop := gR W (fun H ρ n p x => RV W H ρ n p x) E r H ρ n Q
abbrev gB (E : XK) (r : Res Bool) (H : Hp) (ρ : Nat → Addr) (n : Nat) (Q : Bool → Hp → Prop) : Prop := gR W (fun _ _ _ p x => x = p) E r H ρ n Q
abbrev gL (E : XK) (r : Res (List PV)) (H : Hp) (ρ : Nat → Addr) (n : Nat) (Q : List V → Hp → Prop) : Prop := gR W (fun H ρ n p x => RVs W H ρ n p x) E r H ρ n Q
def gS (Wx : WX) (r : RS) (H : Hp) (ρ : Nat → Addr) (n : Nat) (D : Ends) : Prop := match r with
  | .nx env st' => ∀ H' ρ' σ', Stp W H ρ n H' ρ' st' → REnv W H' ρ' st'.length env σ' → D.nx σ' H'
  | .bk env st' => ∀ H' ρ' σ', Stp W H ρ n H' ρ' st' → REnv W H' ρ' st'.length env σ' → D.bk σ' H'
  | .ct env st' => ∀ H' ρ' σ', Stp W H ρ n H' ρ' st' → REnv W H' ρ' st'.length env σ' → D.ct σ' H'
  | .rt v st' => ∀ H' ρ' x, Stp W H ρ n H' ρ' st' → RV W H' ρ' st'.length v x → D.rt x H'
  | .exc e env st' => ∀ H' ρ' σ' c d, Stp W H ρ n H' ρ' st' → REnv W H' ρ' st'.length env σ' → RX W H' ρ' st'.length e c d → Wx c d σ' H'
  | .bad => False
end
/-- where one stands: the world, what is wished of exceptions, what is known of what was handed in -/
structure Jx where
  W : Wd
  Wx : WX
  tr : TR
/-- a state in which d is run -/
structure Sit (J : Jx) (ρ : Nat → Addr) (th : Th) (env : Env) (st : Sto) (σ : L2.St) (H : Hp) : Prop where
  rs : RSt J.W H ρ st
  env : REnv J.W H ρ st.length env σ
  th : J.tr H ρ st.length th
theorem Sit.step {J : Jx} {ρ ρ' : Nat → Addr} {th : Th} {env : Env} {st st' : Sto} {σ : L2.St} {H H' : Hp} (hs : J.tr.Stays J.W) (h : Sit J ρ th env st σ H) (s : Stp J.W H ρ st.length H' ρ' st') : Sit J ρ' th env st' σ H' :=
  ⟨s.rs, s.renv h.env, hs _ _ _ _ _ _ _ s h.th⟩
def rdR {α β : Type} (J : Jx) (R : Hp → (Nat → Addr) → Nat → α → β → Prop) (d : Dn α) : L2.St → Hp → (β → Hp → Prop) → Prop := fun σ H Q =>
  ∃ ρ th env st, Sit J ρ th env st σ H ∧ gR J.W R (fun c dd H' => J.Wx c dd σ H') (d th env st) H ρ st.length Q
abbrev rdE (J : Jx) (d : DE) : TE := rdR J (fun H ρ n p x => RV J.W H ρ n p x) d
abbrev rdB (J : Jx) (d : DB) : TT := rdR J (fun _ _ _ p x => x = p) d
abbrev rdL (J : Jx) (d : DL) : TA := rdR J (fun H ρ n p x => RVs J.W H ρ n p x) d
def rdS (J : Jx) (d : DS) : TS := fun D σ H => ∃ ρ th env st, Sit J ρ th env st σ H ∧ gS J.W J.Wx (d th env st) H ρ st.length D

section
variable {W : Wd} {H H' : Hp} {ρ ρ' : Nat → Addr} {n : Nat} {st' : Sto}
theorem gR.pre {α β : Type} {R : Hp → (Nat → Addr) → Nat → α → β → Prop} {E : XK} {r : Res α} {Q : β → Hp → Prop} (s : Stp W H ρ n H' ρ' st') (h : gR W R E r H ρ n Q) : gR W R E r H' ρ' st'.length Q := by
  cases r with
  | ok v st2 => exact fun H2 ρ2 x s2 q => h H2 ρ2 x (s.trans s2) q
  | exc e st2 => exact fun H2 ρ2 c d s2 q => h H2 ρ2 c d (s.trans s2) q
  | bad => exact h
theorem gS.pre {Wx : WX} {r : RS} {D : Ends} (s : Stp W H ρ n H' ρ' st') (h : gS W Wx r H ρ n D) : gS W Wx r H' ρ' st'.length D := by
  cases r with
  | nx env st2 => exact fun H2 ρ2 x s2 q => h H2 ρ2 x (s.trans s2) q
  | bk env st2 => exact fun H2 ρ2 x s2 q => h H2 ρ2 x (s.trans s2) q
  | ct env st2 => exact fun H2 ρ2 x s2 q => h H2 ρ2 x (s.trans s2) q
  | rt v st2 => exact fun H2 ρ2 x s2 q => h H2 ρ2 x (s.trans s2) q
  | exc e env st2 => exact fun H2 ρ2 σ2 c d s2 q => h H2 ρ2 σ2 c d (s.trans s2) q
  | bad => exact h
theorem gR.bind {α β γ δ : Type} {R : Hp → (Nat → Addr) → Nat → α → β → Prop} {R2 : Hp → (Nat → Addr) → Nat → γ → δ → Prop} {E : XK} {r : Res α} {f : α → Sto → Res γ} {Q : δ → Hp → Prop} {Q2 : β → Hp → Prop}
    (h : gR W R2 E (r.bind f) H ρ n Q) (k : ∀ v st1 H1 ρ1 x, r = .ok v st1 → Stp W H ρ n H1 ρ1 st1 → R H1 ρ1 st1.length v x → gR W R2 E (f v st1) H1 ρ1 st1.length Q → Q2 x H1) : gR W R E r H ρ n Q2 := by
  cases r with
  | ok v st1 => exact fun H1 ρ1 x s1 q => k v st1 H1 ρ1 x rfl s1 q (gR.pre s1 h)
  | exc e st1 => exact h
  | bad => exact h
theorem gR.mono {α β : Type} {R : Hp → (Nat → Addr) → Nat → α → β → Prop} {E : XK} {r : Res α} {Q Q2 : β → Hp → Prop} (h : gR W R E r H ρ n Q) (k : ∀ x H', Q x H' → Q2 x H') : gR W R E r H ρ n Q2 := by
  cases r with
  | ok v st1 => exact fun H1 ρ1 x s1 q => k x H1 (h H1 ρ1 x s1 q)
  | exc e st1 => exact h
  | bad => exact h
theorem gR.now {α β : Type} {R : Hp → (Nat → Addr) → Nat → α → β → Prop} {E : XK} {v : α} {st : Sto} {x : β} {Q : β → Hp → Prop} (r : RSt W H ρ st) (hx : R H ρ st.length v x) (h : gR W R E (.ok v st) H ρ st.length Q) : Q x H :=
  h H ρ x (.refl r) hx
end
section
variable {J : Jx}
/-- one part, then what is made of it -/
theorem rd_bind {α β γ δ : Type} {R : Hp → (Nat → Addr) → Nat → α → β → Prop} {R2 : Hp → (Nat → Addr) → Nat → γ → δ → Prop} {da : Dn α} {f : α → Dn γ} {σ : L2.St} {H : Hp} {Q : δ → Hp → Prop} {Q2 : β → Hp → Prop} (hs : J.tr.Stays J.W)
    (h : rdR J R2 (fun th env st => (da th env st).bind fun v st1 => f v th env st1) σ H Q)
    (k : ∀ ρ th env st v x H1, Sit J ρ th env st σ H1 → R H1 ρ st.length v x → gR J.W R2 (fun c dd H' => J.Wx c dd σ H') (f v th env st) H1 ρ st.length Q → Q2 x H1) : rdR J R da σ H Q2 := by
  obtain ⟨ρ, th, env, st, S, g⟩ := h
  exact ⟨ρ, th, env, st, S, gR.bind g fun v st1 H1 ρ1 x _ s1 r g1 => k ρ1 th env st1 v x H1 (S.step hs s1) r g1⟩
theorem rd_of {α β : Type} {R : Hp → (Nat → Addr) → Nat → α → β → Prop} {d : Dn α} {ρ : Nat → Addr} {th : Th} {env : Env} {st : Sto} {σ : L2.St} {H : Hp} {Q : β → Hp → Prop} (S : Sit J ρ th env st σ H)
    (g : gR J.W R (fun c dd H' => J.Wx c dd σ H') (d th env st) H ρ st.length Q) : rdR J R d σ H Q := ⟨ρ, th, env, st, S, g⟩
theorem PE.imp {X : Cx} {e : Expr} {t t' : TE} (h : PE X e t) (k : ∀ σ H Q, t' σ H Q → t σ H Q) : PE X e t' := ⟨fun pins s σ H Q I q => h.run pins s σ H Q I (k σ H Q q)⟩
theorem PT.imp {X : Cx} {e : Expr} {t t' : TT} (h : PT X e t) (k : ∀ σ H Q, t' σ H Q → t σ H Q) : PT X e t' := ⟨fun pins s σ H Q I q => h.run pins s σ H Q I (k σ H Q q)⟩
theorem PA.imp {X : Cx} {e : List Expr} {t t' : TA} (h : PA X e t) (k : ∀ σ H Q, t' σ H Q → t σ H Q) : PA X e t' := ⟨fun pos pins s σ H Q I q => h.run pos pins s σ H Q I (k σ H Q q)⟩
theorem PS.imp {X : Cx} {e : Stmt} {t t' : TS} (h : PS X e t) (k : ∀ D σ H, t' D σ H → t D σ H) : PS X e t' := ⟨fun pins s σ H D I q => h.run pins s σ H D I (k D σ H q)⟩
theorem PSs.imp {X : Cx} {e : List Stmt} {t t' : TS} (h : PSs X e t) (k : ∀ D σ H, t' D σ H → t D σ H) : PSs X e t' := ⟨fun pins s σ H D I q => h.run pins s σ H D I (k D σ H q)⟩
end
end Mi
end
section
set_option maxRecDepth 100000
set_option maxHeartbeats 4000000
namespace Mi
open PySem PySem.Spec PyProof.Rows L2
/-! ### new objects, written objects -/
section
variable {W : Wd} {H H' : Hp} {ρ ρ' : Nat → Addr} {n n' : Nat} {st : Sto} {p : Addr} {o u : HO}
theorem tabs_new {T : List (Addr × Str)} (hp : H p = none) (h : LamX.Tabs T H) : LamX.Tabs T (upd H p o) := h.ext fun b v e => by
  rw [upd_ne (ne_of_none e hp)]
  exact e
theorem tabs_mut {T : List (Addr × Str)} (hp : H p = some u) (h1 : ∀ ps, u ≠ .tbl ps) (h2 : ∀ φ, u ≠ .ext φ) (h : LamX.Tabs T H) : LamX.Tabs T (upd H p o) := fun q hq => by
  obtain ⟨ps, e1, e2, e3⟩ := h q hq
  refine ⟨ps, ?_, e2, fun pos cv hc => ?_⟩
  · rw [upd_ne (ne_of e1 hp fun z => h1 ps z.symm)]
    exact e1
  · obtain ⟨c, a1, a2⟩ := e3 pos cv hc
    refine ⟨c, a1, ?_⟩
    rw [upd_ne (ne_of a2 hp fun z => by unfold LamX.CodeO at z; exact h2 _ z.symm)]
    exact a2
theorem RO.mono {so : SO} {a : Addr} (x : HX H H') (ag : Agr n ρ ρ') (le : n ≤ n') (e : ∀ u, (∀ xs, u ≠ .tup xs) → (∀ o w, u ≠ .frz o w) → H a = some u → H' a = some u) (h : RO W H ρ n so a) : RO W H' ρ' n' so a := by
  cases so with
  | lst xs =>
    obtain ⟨vs, h1, h2⟩ := h
    exact ⟨vs, e _ (fun _ z => by cases z) (fun _ _ z => by cases z) h1, h2.mono x ag le⟩
  | dct xs =>
    obtain ⟨vs, h1, h2⟩ := h
    exact ⟨vs, e _ (fun _ z => by cases z) (fun _ _ z => by cases z) h1, RKs.mono x ag le _ _ h2⟩
  | fz xs =>
    obtain ⟨vs, h1, h2⟩ := h
    exact ⟨vs, h1.mono x, h2.mono x ag le⟩
/-- what stands for a mutable object -/
theorem RO.there {so : SO} {a : Addr} (h : RO W H ρ n so a) (m : so.mut = true) : ∃ u, H a = some u ∧ (∀ xs, u ≠ .tup xs) ∧ (∀ o w, u ≠ .frz o w) ∧ (∀ ps, u ≠ .tbl ps) ∧ ∀ φ, u ≠ .ext φ := by
  cases so with
  | lst xs =>
    obtain ⟨vs, h1, h2⟩ := h
    exact ⟨_, h1, (fun _ z => by cases z), (fun _ _ z => by cases z), (fun _ z => by cases z), (fun _ z => by cases z)⟩
  | dct xs =>
    obtain ⟨vs, h1, h2⟩ := h
    exact ⟨_, h1, (fun _ z => by cases z), (fun _ _ z => by cases z), (fun _ z => by cases z), (fun _ z => by cases z)⟩
  | fz xs => cases m
/-- a new object that the store does not hold -/
theorem Stp.aside (r : RSt W H ρ st) (hp : H p = none) : Stp W H ρ st.length (upd H p o) ρ st := by
  refine ⟨⟨r.inj, fun i so e => ?_, tabs_new hp r.tab⟩, HX.new hp, .refl _ _, Nat.le_refl _⟩
  exact (r.obj i so e).mono (HX.new hp) (.refl _ _) (Nat.le_refl _) fun u _ _ h => by
    rw [upd_ne (ne_of_none h hp)]
    exact h
def put (ρ : Nat → Addr) (n : Nat) (p : Addr) : Nat → Addr := fun i => if i = n then p else ρ i
theorem put_same {ρ : Nat → Addr} {n : Nat} {p : Addr} : put ρ n p n = p := if_pos rfl
theorem put_agr {ρ : Nat → Addr} {n : Nat} {p : Addr} : Agr n ρ (put ρ n p) := fun i h => if_neg (Nat.ne_of_lt h)
/-- a new object -/
theorem Stp.alloc {so : SO} (r : RSt W H ρ st) (hp : H p = none) (new : RO W (upd H p o) (put ρ st.length p) (st.length + 1) so p) (hm : so.mut = true) : Stp W H ρ st.length (upd H p o) (put ρ st.length p) (st ++ [so]) := by
  have len : (st ++ [so]).length = st.length + 1 := by simp
  have hx : HX H (upd H p o) := HX.new hp
  have obj : ∀ (i : Nat) (u : SO), (st ++ [so])[i]? = some u → (i < st.length ∧ st[i]? = some u ∧ put ρ st.length p i = ρ i) ∨ (i = st.length ∧ u = so) := fun i u e => by
    by_cases h : i < st.length
    · rw [List.getElem?_append_left h] at e
      exact .inl ⟨h, e, put_agr i h⟩
    · have h2 : i = st.length := by
        have := (List.getElem?_eq_some_iff.mp e).1
        rw [len] at this
        omega
      subst h2
      rw [List.getElem?_append_right (Nat.le_refl _)] at e
      simp at e
      exact .inr ⟨rfl, e.symm⟩
  refine ⟨⟨fun i j a b ei ej ma mb q => ?_, fun i u e => ?_, tabs_new hp r.tab⟩, hx, put_agr, by omega⟩
  · rcases obj i a ei with ⟨hi, ei, pi⟩ | ⟨hi, ea⟩ <;> rcases obj j b ej with ⟨hj, ej, pj⟩ | ⟨hj, eb⟩
    · rw [pi, pj] at q
      exact r.inj i j a b ei ej ma mb q
    · subst hj
      rw [pi, put_same] at q
      obtain ⟨u, h1, _⟩ := (r.obj i a ei).there ma
      rw [q, hp] at h1
      cases h1
    · subst hi
      rw [pj, put_same] at q
      obtain ⟨u, h1, _⟩ := (r.obj j b ej).there mb
      rw [← q, hp] at h1
      cases h1
    · rw [hi, hj]
  · rw [len]
    rcases obj i u e with ⟨hi, ei, pi⟩ | ⟨hi, ea⟩
    · rw [pi]
      exact (r.obj i u ei).mono hx put_agr (Nat.le_succ _) fun w _ _ h => by
        rw [upd_ne (ne_of_none h hp)]
        exact h
    · subst hi ea
      rw [put_same]
      exact new
/-- an object is written -/
theorem Stp.write {k : Nat} {so so' : SO} (r : RSt W H ρ st) (hk : st[k]? = some so) (m : so.mut = true) (m' : so'.mut = true) (new : RO W (upd H (ρ k) o) ρ st.length so' (ρ k)) : Stp W H ρ st.length (upd H (ρ k) o) ρ (st.set k so') := by
  obtain ⟨u, h1, n1, n2, n3, n4⟩ := (r.obj k so hk).there m
  have hx : HX H (upd H (ρ k) o) := HX.mut h1 n1 n2
  have hl : k < st.length := (List.getElem?_eq_some_iff.mp hk).1
  have obj : ∀ (i : Nat) (w : SO), (st.set k so')[i]? = some w → (i = k ∧ w = so') ∨ (i ≠ k ∧ st[i]? = some w) := fun i w e => by
    by_cases h : i = k
    · subst h
      rw [List.getElem?_set_self hl] at e
      exact .inl ⟨rfl, (Option.some.inj e).symm⟩
    · rw [List.getElem?_set_ne (Ne.symm h)] at e
      exact .inr ⟨h, e⟩
  have orig : ∀ (i : Nat) (w : SO), (st.set k so')[i]? = some w → w.mut = true → ∃ w', st[i]? = some w' ∧ w'.mut = true := fun i w e mw => by
    rcases obj i w e with ⟨rfl, _⟩ | ⟨_, e⟩
    · exact ⟨so, hk, m⟩
    · exact ⟨w, e, mw⟩
  refine ⟨⟨fun i j a b ei ej ma mb q => ?_, fun i w e => ?_, tabs_mut h1 n3 n4 r.tab⟩, hx, .refl _ _, by rw [List.length_set]; exact Nat.le_refl _⟩
  · obtain ⟨a', ea, ma'⟩ := orig i a ei ma
    obtain ⟨b', eb, mb'⟩ := orig j b ej mb
    exact r.inj i j a' b' ea eb ma' mb' q
  · rw [List.length_set]
    rcases obj i w e with ⟨rfl, rfl⟩ | ⟨hi, e⟩
    · exact new
    · by_cases hm : w.mut = true
      · refine (r.obj i w e).mono hx (.refl _ _) (Nat.le_refl _) fun u' a1 a2 h => ?_
        have ne : ρ i ≠ ρ k := fun z => hi (r.inj i k w so e hk hm m z)
        rw [upd_ne ne]
        exact h
      · cases w with
        | fz xs =>
          obtain ⟨vs, hf, hv⟩ := r.obj i _ e
          exact ⟨vs, hf.mono hx, hv.mono hx (.refl _ _) (Nat.le_refl _)⟩
        | lst xs => exact absurd rfl hm
        | dct xs => exact absurd rfl hm
/-! ### the forms one uses -/
theorem Stp.newL {xs : List PV} {vs : List V} (r : RSt W H ρ st) (hp : H p = none) (h : RVs W H ρ st.length xs vs) : Stp W H ρ st.length (upd H p (.lst vs)) (put ρ st.length p) (st ++ [.lst xs]) :=
  .alloc r hp ⟨vs, upd_same, h.mono (HX.new hp) put_agr (Nat.le_succ _)⟩ rfl
theorem Stp.setL {k : Nat} {so : SO} {xs : List PV} {vs : List V} (r : RSt W H ρ st) (hk : st[k]? = some so) (m : so.mut = true) (h : RVs W H ρ st.length xs vs) : Stp W H ρ st.length (upd H (ρ k) (.lst vs)) ρ (st.set k (.lst xs)) := by
  obtain ⟨u, h1, n1, n2, _⟩ := (r.obj k so hk).there m
  exact .write r hk m rfl ⟨vs, upd_same, h.mono (HX.mut h1 n1 n2) (.refl _ _) (Nat.le_refl _)⟩
theorem Stp.newT {vs : List V} (r : RSt W H ρ st) (hp : H p = none) : Stp W H ρ st.length (upd H p (.tup vs)) ρ st := .aside r hp
theorem rv_newT {xs : List PV} {vs : List V} (hp : H p = none) (h : RVs W H ρ n xs vs) : RV W (upd H p (.tup vs)) ρ n (.tup xs) (.ref p) :=
  ⟨p, vs, rfl, .inl (.inl upd_same), h.mono (HX.new hp) (.refl _ _) (Nat.le_refl _)⟩
/-- a list of the store, read -/
theorem RSt.lst {k : Nat} {xs : List PV} (r : RSt W H ρ st) (hk : st[k]? = some (.lst xs)) : ∃ vs, H (ρ k) = some (.lst vs) ∧ RVs W H ρ st.length xs vs := r.obj k _ hk
end
end Mi
end
section
set_option maxRecDepth 100000
set_option maxHeartbeats 4000000
namespace Mi
open PySem PySem.Spec PyProof.Rows L2
/-! ### operations by values -/
def szOk (n : Nat) : Bool := Nat.ble n 16777216
theorem szOk_le {n : Nat} (h : szOk n = true) : n ≤ sizeLine := by
  rw [sizeLine_eq]
  exact Nat.le_of_ble_eq_true h
def lstAt (st : Sto) (k : Nat) : Option (List PV) := match st[k]? with
  | some (.lst xs) => some xs
  | some (.fz xs) => some xs
  | _ => none
section
variable {W : Wd} {H : Hp} {ρ : Nat → Addr} {n : Nat} {st : Sto}
theorem RSt.seq {k : Nat} {xs : List PV} (r : RSt W H ρ st) (h : lstAt st k = some xs) : ∃ vs, SqL W.K H (ρ k) vs ∧ RVs W H ρ st.length xs vs := by
  unfold lstAt at h
  split at h
  · rename_i ys e
    cases h
    obtain ⟨vs, h1, h2⟩ := r.obj k _ e
    exact ⟨vs, .of h1, h2⟩
  · rename_i ys e
    cases h
    obtain ⟨vs, h1, h2⟩ := r.obj k _ e
    exact ⟨vs, h1.sq, h2⟩
  · cases h
/-- data -/
def mapO {α β : Type} (f : α → Option β) : List α → Option (List β)
  | [] => some []
  | x :: xs => match f x with
    | some y => match mapO f xs with
      | some ys => some (y :: ys)
      | none => none
    | none => none
def okCh (s : List Nat) : Bool := s.all fun c => Nat.blt c 1114112
def dat : Nat → Sto → PV → Option PyData
  | _, _, .non => some .none
  | _, _, .bl b => some (.bool b)
  | _, _, .int i => some (.int i)
  | _, _, .str s => if okCh s = true then some (.str ⟨s.toArray⟩) else none
  | n + 1, st, .tup xs => match mapO (dat n st) xs with
    | some ds => some (.tuple ds)
    | none => none
  | n + 1, st, .ref k => match lstAt st k with
    | some xs => match mapO (dat n st) xs with
      | some ds => some (.list ds)
      | none => none
    | none => none
  | _, _, _ => none
theorem okCh_ok {s : List Nat} (h : okCh s = true) : PyData.strOk ⟨s.toArray⟩ = true := by
  unfold PyData.strOk
  unfold okCh at h
  show s.toArray.all _ = true
  rw [List.all_toArray]
  refine List.all_eq_true.mpr fun c hc => ?_
  have h2 := List.all_eq_true.mp h c hc
  have h3 : c < 1114112 := Nat.le_of_ble_eq_true h2
  exact decide_eq_true h3
theorem mapO_all {f : PV → Option PyData} {P : PyData → Prop} (hf : ∀ p d, f p = some d → P d) : ∀ {xs : List PV} {ds : List PyData}, mapO f xs = some ds → ∀ d ∈ ds, P d
  | [], ds, e => by
    cases e
    intro d hd
    cases hd
  | x :: xs, ds, e => by
    unfold mapO at e
    split at e
    · rename_i y ey
      split at e
      · rename_i ys eys
        cases e
        intro d hd
        rcases List.mem_cons.mp hd with rfl | hd
        · exact hf _ _ ey
        · exact mapO_all hf eys d hd
      · cases e
    · cases e
theorem canLayAll_of : ∀ {ds : List PyData}, (∀ d ∈ ds, d.canLay0 = true) → PyData.canLayAll0 ds = true
  | [], _ => rfl
  | d :: ds, h => by
    unfold PyData.canLayAll0
    rw [h d (List.mem_cons_self ..), canLayAll_of fun e he => h e (List.mem_cons_of_mem _ he)]
    rfl
theorem depthAll_of {n : Nat} : ∀ {ds : List PyData}, (∀ d ∈ ds, d.depth ≤ n) → PyData.depthAll ds ≤ n
  | [], _ => Nat.zero_le _
  | d :: ds, h => by
    unfold PyData.depthAll
    exact Nat.max_le.mpr ⟨h d (List.mem_cons_self ..), depthAll_of fun e he => h e (List.mem_cons_of_mem _ he)⟩
theorem dat_shape : ∀ (n : Nat) (p : PV) (d : PyData), dat n st p = some d → d.canLay0 = true ∧ d.depth ≤ n := by
  intro n
  induction n with
  | zero =>
    intro p d e
    cases p <;> simp only [dat] at e <;> first
      | (cases e; done)
      | (cases e; exact ⟨rfl, Nat.le_refl _⟩)
      | (split at e
         · rename_i h
           cases e
           exact ⟨okCh_ok h, Nat.le_refl _⟩
         · cases e)
  | succ n ih =>
    intro p d e
    cases p <;> simp only [dat] at e
    all_goals try (first | (cases e; done) | (cases e; exact ⟨rfl, Nat.zero_le _⟩))
    · split at e
      · rename_i h
        cases e
        exact ⟨okCh_ok h, Nat.zero_le _⟩
      · cases e
    · split at e
      · rename_i ds hd
        cases e
        have h := mapO_all (P := fun d => d.canLay0 = true ∧ d.depth ≤ n) ih hd
        refine ⟨canLayAll_of fun d q => (h d q).1, ?_⟩
        unfold PyData.depth
        have := depthAll_of fun d q => (h d q).2
        omega
      · cases e
    · split at e
      · split at e
        · rename_i ds hd
          cases e
          have h := mapO_all (P := fun d => d.canLay0 = true ∧ d.depth ≤ n) ih hd
          refine ⟨canLayAll_of fun d q => (h d q).1, ?_⟩
          unfold PyData.depth
          have := depthAll_of fun d q => (h d q).2
          omega
        · cases e
      · cases e
theorem mapO_dp (r : RSt W H ρ st) {f : PV → Option PyData} (hf : ∀ p d x, f p = some d → RV W H ρ st.length p x → Dp W.K H x d) : ∀ {xs : List PV} {ds : List PyData} {vs : List V}, mapO f xs = some ds → RVs W H ρ st.length xs vs → DpAll W.K H vs ds
  | [], ds, vs, e, h => by
    cases e
    have h : vs = [] := h
    subst h
    exact .nil
  | x :: xs, ds, vs, e, h => by
    unfold mapO at e
    obtain ⟨v, w, rfl, h1, h2⟩ := h
    split at e
    · rename_i y ey
      split at e
      · rename_i ys eys
        cases e
        exact .cons (hf _ _ _ ey h1) (mapO_dp r hf eys h2)
      · cases e
    · cases e
theorem dat_dp (r : RSt W H ρ st) : ∀ (n : Nat) (p : PV) (d : PyData) (x : V), dat n st p = some d → RV W H ρ st.length p x → Dp W.K H x d := by
  intro n
  induction n with
  | zero =>
    intro p d x e h
    cases p <;> simp only [dat] at e <;> first
      | (cases e; done)
      | (cases e; simp only [RV] at h; subst h; constructor)
      | (split at e
         · cases e
           simp only [RV] at h
           subst h
           constructor
         · cases e)
  | succ n ih =>
    intro p d x e h
    cases p <;> simp only [dat] at e
    all_goals try (first | (cases e; done) | (cases e; simp only [RV] at h; subst h; constructor))
    · split at e
      · cases e
        simp only [RV] at h
        subst h
        constructor
      · cases e
    · split at e
      · rename_i ds hd
        cases e
        obtain ⟨a, vs, rfl, hq, hv⟩ := h
        exact .tup hq (mapO_dp r ih hd hv)
      · cases e
    · split at e
      · rename_i xs hx
        split at e
        · rename_i ds hd
          cases e
          obtain ⟨hk, rfl⟩ := h
          obtain ⟨vs, hq, hv⟩ := r.seq hx
          exact .lst hq (mapO_dp r ih hd hv)
        · cases e
      · cases e
theorem shaped_dat {n : Nat} {p : PV} {d : PyData} (hn : n ≤ 64) (h : dat n st p = some d) : SeqAt.shaped d = true := by
  obtain ⟨h1, h2⟩ := dat_shape n p d h
  unfold SeqAt.shaped
  rw [h1, Bool.true_and]
  exact decide_eq_true (Nat.le_trans h2 hn)
end
/-- == -/
def pEqB (x y : PV) (st : Sto) : Option Bool := match x, y with
  | .int i, .int j => some (decide (i = j))
  | .str a, .str b => some (decide (a = b))
  | .bl a, .bl b => some (a == b)
  | .non, .non => some true
  | x, y => match dat 60 st x with
    | some d => match dat 60 st y with
      | some e => some (PyData.eqv d e)
      | none => none
    | none => none
def pEq (x y : PV) (st : Sto) : Res PV := match pEqB x y st with
  | some b => .ok (.bl b) st
  | none => .bad
def pNe (x y : PV) (st : Sto) : Res PV := match pEqB x y st with
  | some b => .ok (.bl (!b)) st
  | none => .bad
/-- a two-place operation does what a rule of the layer asks -/
def OpOK (J : Jx) (f : PV → PV → Sto → Res PV) (r : R2) : Prop := ∀ (E : XK) (H : Hp) (ρ : Nat → Addr) (st : Sto) (p q : PV) (x y : V) (Q : VK), RSt J.W H ρ st → RV J.W H ρ st.length p x → RV J.W H ρ st.length q y → gE J.W E (f p q st) H ρ st.length Q → r x y H Q
def UnOK (J : Jx) (f : PV → Sto → Res PV) (r : V → Hp → VK → Prop) : Prop := ∀ (E : XK) (H : Hp) (ρ : Nat → Addr) (st : Sto) (p : PV) (x : V) (Q : VK), RSt J.W H ρ st → RV J.W H ρ st.length p x → gE J.W E (f p st) H ρ st.length Q → r x H Q
def CallOK (J : Jx) (f : List PV → Sto → Res PV) (r : List V → Hp → VK → Prop) : Prop := ∀ (E : XK) (H : Hp) (ρ : Nat → Addr) (st : Sto) (ps : List PV) (xs : List V) (Q : VK), RSt J.W H ρ st → RVs J.W H ρ st.length ps xs → gE J.W E (f ps st) H ρ st.length Q → r xs H Q
theorem str_inj {a b : List Nat} : decide (V.str ⟨a.toArray⟩ = V.str ⟨b.toArray⟩) = decide (a = b) := by
  by_cases h : a = b
  · subst h
    simp
  · have h2 : ¬ (V.str ⟨a.toArray⟩ = V.str ⟨b.toArray⟩) := fun z => by
      injection z with z
      injection z with z
      exact h (by simpa using z)
    rw [decide_eq_false h, decide_eq_false h2]
section
variable {J : Jx}
def rEqA (K : PySem.W.Frag) : R2 := fun x y H Q => rEq x y H Q ∨ rEqD K x y H Q
def rNeA (K : PySem.W.Frag) : R2 := fun x y H Q => rNe x y H Q ∨ rNeD K x y H Q
theorem eqB_ok {W : Wd} {H : Hp} {ρ : Nat → Addr} {st : Sto} {p q : PV} {x y : V} {b : Bool} (r : RSt W H ρ st) (hx : RV W H ρ st.length p x) (hy : RV W H ρ st.length q y) (h : pEqB p q st = some b) :
    (scal x y = true ∧ decide (x = y) = b) ∨ ∃ d e, Dp W.K H x d ∧ Dp W.K H y e ∧ SeqAt.shaped d = true ∧ SeqAt.shaped e = true ∧ PyData.eqv d e = b := by
  unfold pEqB at h
  split at h
  · cases h
    simp only [RV] at hx hy
    subst hx hy
    refine .inl ⟨rfl, ?_⟩
    rw [dec_int, Bool.beq_eq_decide_eq]
  · cases h
    simp only [RV] at hx hy
    subst hx hy
    exact .inl ⟨rfl, str_inj⟩
  · cases h
    simp only [RV] at hx hy
    subst hx hy
    exact .inl ⟨rfl, dec_bl⟩
  · cases h
    simp only [RV] at hx hy
    subst hx hy
    exact .inl ⟨rfl, by simp⟩
  · split at h
    · rename_i d hd
      split at h
      · rename_i e he
        cases h
        exact .inr ⟨d, e, dat_dp r _ _ _ _ hd hx, dat_dp r _ _ _ _ he hy, shaped_dat (by decide) hd, shaped_dat (by decide) he, rfl⟩
      · cases h
    · cases h
theorem ok_eq : OpOK J pEq (rEqA J.W.K) := by
  intro E H ρ st p q x y Q r hx hy g
  unfold pEq at g
  cases e : pEqB p q st with
  | none =>
    rw [e] at g
    exact g.elim
  | some b =>
    rw [e] at g
    have hQ : Q (.bl b) H := g H ρ (.bl b) (.refl r) rfl
    rcases eqB_ok r hx hy e with ⟨h1, h2⟩ | ⟨d, e', h1, h2, h3, h4, h5⟩
    · exact .inl ⟨h1, by rw [h2]; exact hQ⟩
    · exact .inr ⟨d, e', h1, h2, h3, h4, by rw [h5]; exact hQ⟩
theorem ok_ne : OpOK J pNe (rNeA J.W.K) := by
  intro E H ρ st p q x y Q r hx hy g
  unfold pNe at g
  cases e : pEqB p q st with
  | none =>
    rw [e] at g
    exact g.elim
  | some b =>
    rw [e] at g
    have hQ : Q (.bl (!b)) H := g H ρ (.bl (!b)) (.refl r) rfl
    rcases eqB_ok r hx hy e with ⟨h1, h2⟩ | ⟨d, e', h1, h2, h3, h4, h5⟩
    · exact .inl ⟨h1, by rw [h2]; exact hQ⟩
    · exact .inr ⟨d, e', h1, h2, h3, h4, by rw [h5]; exact hQ⟩
/-- order -/
def pCmp (f : Int → Int → Bool) (g : List Nat → List Nat → Bool) (x y : PV) (st : Sto) : Res PV := match x, y with
  | .int i, .int j => .ok (.bl (f i j)) st
  | .str a, .str b => .ok (.bl (g a b)) st
  | _, _ => .bad
def pLt := pCmp (fun i j => decide (i < j)) (fun a b => decide (a < b))
def pLe := pCmp (fun i j => decide (i ≤ j)) (fun a b => !decide (b < a))
def pGt := pCmp (fun i j => decide (j < i)) (fun a b => decide (b < a))
def pGe := pCmp (fun i j => decide (j ≤ i)) (fun a b => !decide (a < b))
def rCmpA (f : Int → Int → Bool) (g : List Nat → List Nat → Bool) : R2 := fun x y H Q => (∃ i j, x = .int i ∧ y = .int j ∧ Q (.bl (f i j)) H) ∨ ∃ i j, x = .str i ∧ y = .str j ∧ Q (.bl (g i.cps.toList j.cps.toList)) H
theorem ok_cmp {f : Int → Int → Bool} {g : List Nat → List Nat → Bool} : OpOK J (pCmp f g) (rCmpA f g) := by
  intro E H ρ st p q x y Q r hx hy h
  unfold pCmp at h
  split at h
  · simp only [RV] at hx hy
    subst hx hy
    exact .inl ⟨_, _, rfl, rfl, h H ρ _ (.refl r) rfl⟩
  · simp only [RV] at hx hy
    subst hx hy
    exact .inr ⟨_, _, rfl, rfl, h H ρ _ (.refl r) rfl⟩
  · exact h.elim
/-- is None -/
def pIsN (x y : PV) (st : Sto) : Res PV := match y with
  | .non => (match x with
    | .non => .ok (.bl true) st
    | _ => .ok (.bl false) st)
  | _ => .bad
def pNotN (x y : PV) (st : Sto) : Res PV := match y with
  | .non => (match x with
    | .non => .ok (.bl false) st
    | _ => .ok (.bl true) st)
  | _ => .bad
theorem non_iff {W : Wd} {H : Hp} {ρ : Nat → Addr} {n : Nat} {p : PV} {x : V} (h : RV W H ρ n p x) : decide (x = .non) = (match p with | .non => true | _ => false) := by
  cases p with
  | non =>
    simp only [RV] at h
    subst h
    rfl
  | tup xs =>
    obtain ⟨a, vs, rfl, _⟩ := h
    rfl
  | ref k =>
    obtain ⟨_, rfl⟩ := h
    rfl
  | fn k =>
    obtain ⟨_, _, rfl⟩ := h
    rfl
  | _ =>
    simp only [RV] at h
    subst h
    rfl
theorem ok_isN : OpOK J pIsN (fun x y H Q => y = .non ∧ Q (.bl (decide (x = .non))) H) := by
  intro E H ρ st p q x y Q r hx hy h
  unfold pIsN at h
  split at h
  · simp only [RV] at hy
    subst hy
    refine ⟨rfl, ?_⟩
    rw [non_iff hx]
    cases p <;> exact h H ρ _ (.refl r) rfl
  · exact h.elim
theorem ok_notN : OpOK J pNotN (fun x y H Q => y = .non ∧ Q (.bl (!decide (x = .non))) H) := by
  intro E H ρ st p q x y Q r hx hy h
  unfold pNotN at h
  split at h
  · simp only [RV] at hy
    subst hy
    refine ⟨rfl, ?_⟩
    rw [non_iff hx]
    cases p <;> exact h H ρ _ (.refl r) rfl
  · exact h.elim
end
end Mi
end
section
set_option maxRecDepth 100000
set_option maxHeartbeats 4000000
namespace Mi
open PySem PySem.Spec PyProof.Rows L2
section
variable {J : Jx}
/-! ### arithmetic -/
def pAdd (x y : PV) (st : Sto) : Res PV := match x, y with
  | .int i, .int j => .ok (.int (i + j)) st
  | .int i, .bl k => .ok (.int (i + b2i k)) st
  | .str a, .str b => if szOk (a.length + b.length) = true then .ok (.str (a ++ b)) st else .bad
  | .tup a, .tup b => if szOk (a.length + b.length) = true then .ok (.tup (a ++ b)) st else .bad
  | .ref a, .ref b => match st[a]? with
    | some (.lst xs) => match st[b]? with
      | some (.lst ys) => if szOk (xs.length + ys.length) = true then .ok (.ref st.length) (st ++ [.lst (xs ++ ys)]) else .bad
      | _ => .bad
    | _ => .bad
  | _, _ => .bad
def rAddA (K : PySem.W.Frag) : R2 := fun x y H Q => rI0 (fun i j => .int (i + j)) x y H Q ∨ (∃ i k, x = .int i ∧ y = .bl k ∧ Q (.int (i + b2i k)) H) ∨ (∃ i j, x = .str i ∧ y = .str j ∧ i.length + j.length ≤ sizeLine ∧ Q (.str (i ++ j)) H) ∨ rCatA K x y H Q ∨ rCat x y H Q
theorem str_app (a b : List Nat) : (⟨(a ++ b).toArray⟩ : Str) = (⟨a.toArray⟩ : Str) ++ ⟨b.toArray⟩ := by
  show (⟨(a ++ b).toArray⟩ : Str) = ⟨a.toArray ++ b.toArray⟩
  simp
theorem str_len (a : List Nat) : (⟨a.toArray⟩ : Str).length = a.length := by
  show a.toArray.size = a.length
  simp
theorem ok_add : OpOK J pAdd (rAddA J.W.K) := by
  intro E H ρ st p q x y Q r hx hy h
  unfold pAdd at h
  split at h
  · simp only [RV] at hx hy
    subst hx hy
    exact .inl ⟨_, _, rfl, rfl, h H ρ _ (.refl r) rfl⟩
  · simp only [RV] at hx hy
    subst hx hy
    exact .inr (.inl ⟨_, _, rfl, rfl, h H ρ _ (.refl r) rfl⟩)
  · split at h
    · rename_i a b hz
      simp only [RV] at hx hy
      subst hx hy
      exact .inr (.inr (.inl ⟨_, _, rfl, rfl, by rw [str_len, str_len]; exact szOk_le hz, by rw [← str_app]; exact h H ρ _ (.refl r) rfl⟩))
    · exact h.elim
  · split at h
    · rename_i a b hz
      obtain ⟨c, vs, rfl, s1, t1⟩ := hx
      obtain ⟨d, us, rfl, s2, t2⟩ := hy
      refine .inr (.inr (.inr (.inl ⟨c, d, vs, us, rfl, rfl, s1, s2, by rw [← t1.length, ← t2.length]; exact szOk_le hz, fun e => ?_, fun _ e => ?_, fun _ _ w hw => ?_⟩)))
      · refine h H ρ _ (.refl r) ⟨d, us, rfl, s2, ?_⟩
        have := t1.append t2
        rw [e] at this
        exact this
      · refine h H ρ _ (.refl r) ⟨c, vs, rfl, s1, ?_⟩
        have := t1.append t2
        rw [e, List.append_nil] at this
        exact this
      · exact h _ ρ _ (.newT r hw) (rv_newT hw (t1.append t2))
    · exact h.elim
  · split at h
    · rename_i xs e1
      split at h
      · rename_i ys e2
        split at h
        · rename_i hz
          obtain ⟨_, rfl⟩ := hx
          obtain ⟨_, rfl⟩ := hy
          obtain ⟨vs, a1, a2⟩ := r.lst e1
          obtain ⟨us, b1, b2⟩ := r.lst e2
          refine .inr (.inr (.inr (.inr ⟨_, _, vs, us, rfl, rfl, a1, b1, by rw [← a2.length, ← b2.length]; exact szOk_le hz, fun w hw => ?_⟩)))
          exact h _ _ _ (.newL r hw (a2.append b2)) ⟨by simp, by rw [put_same]⟩
        · exact h.elim
      · exact h.elim
    · exact h.elim
  · exact h.elim
def pInt (C : Int → Int → Bool) (f : Int → Int → Int) (x y : PV) (st : Sto) : Res PV := match x, y with
  | .int i, .int j => if C i j = true then .ok (.int (f i j)) st else .bad
  | _, _ => .bad
theorem ok_int {C : Int → Int → Bool} {f : Int → Int → Int} {P : Int → Int → Prop} (hp : ∀ i j, C i j = true → P i j) : OpOK J (pInt C f) (rI P fun i j => .int (f i j)) := by
  intro E H ρ st p q x y Q r hx hy h
  unfold pInt at h
  split at h
  · split at h
    · rename_i hc
      simp only [RV] at hx hy
      subst hx hy
      exact ⟨_, _, rfl, rfl, hp _ _ hc, h H ρ _ (.refl r) rfl⟩
    · exact h.elim
  · exact h.elim
def pSub := pInt (fun _ _ => true) fun i j => i - j
def cMul (i j : Int) : Bool := decide (i.natAbs.log2 + j.natAbs.log2 < 1000000)
def cPos (_ j : Int) : Bool := decide (0 < j)
def cDiv (_ j : Int) : Bool := decide (0 < j) && decide (j.natAbs.log2 < 9000)
def cPow (i j : Int) : Bool := decide (0 ≤ j) && decide ((Builtin.Int.intBits i : Int) * j ≤ 2 ^ 27)
def pFdiv := pInt cDiv fun i j => i / j
def pMod := pInt cPos fun i j => i % j
def pPow := pInt cPow fun i j => i ^ j.toNat
theorem op_powB {X : Cx} : OpR X (binaryOp .Pow) (rI (fun i j => 0 ≤ j ∧ (Builtin.Int.intBits i : Int) * j ≤ 2 ^ 27) fun i j => .int (i ^ j.toNat)) := opI fun _ _ _ _ _ _ _ hc q => pow_int hc.1 hc.2 q
theorem op_subT {X : Cx} : OpR X (binaryOp .Sub) (rI (fun _ _ => True) fun i j => .int (i - j)) := opI fun _ _ _ _ _ _ _ _ q => sub_int q
theorem ok_sub : OpOK J pSub (rI (fun _ _ => True) fun i j => .int (i - j)) := ok_int fun _ _ _ => trivial
theorem ok_fdiv : OpOK J pFdiv (rI CDivW fun i j => .int (i / j)) := ok_int fun i j h => by
  unfold cDiv at h
  rw [Bool.and_eq_true] at h
  exact ⟨of_decide_eq_true h.1, of_decide_eq_true h.2⟩
theorem ok_mod : OpOK J pMod (rI (fun _ j => 0 < j) fun i j => .int (i % j)) := ok_int fun i j h => of_decide_eq_true h
theorem ok_pow : OpOK J pPow (rI (fun i j => 0 ≤ j ∧ (Builtin.Int.intBits i : Int) * j ≤ 2 ^ 27) fun i j => .int (i ^ j.toNat)) := ok_int fun i j h => by
  unfold cPow at h
  rw [Bool.and_eq_true] at h
  exact ⟨of_decide_eq_true h.1, of_decide_eq_true h.2⟩
def pMul (x y : PV) (st : Sto) : Res PV := match x, y with
  | .int i, .int j => if cMul i j = true then .ok (.int (i * j)) st else .bad
  | .ref a, .int k => match st[a]? with
    | some (.lst xs) => if (decide (-(2 ^ 63) ≤ k) && decide (k < 2 ^ 63) && szOk (xs.length * k.toNat)) = true then .ok (.ref st.length) (st ++ [.lst (List.replicate k.toNat xs).flatten]) else .bad
    | _ => .bad
  | _, _ => .bad
def rMulA : R2 := fun x y H Q => rI CMulW (fun i j => .int (i * j)) x y H Q ∨ rRep x y H Q
theorem RVs.rep {W : Wd} {H : Hp} {ρ : Nat → Addr} {n : Nat} {ps : List PV} {vs : List V} (h : RVs W H ρ n ps vs) : ∀ k : Nat, RVs W H ρ n (List.replicate k ps).flatten (List.replicate k vs).flatten
  | 0 => rfl
  | k + 1 => by
    rw [List.replicate_succ, List.replicate_succ, List.flatten_cons, List.flatten_cons]
    exact h.append (h.rep k)
theorem ok_mul : OpOK J pMul rMulA := by
  intro E H ρ st p q x y Q r hx hy h
  unfold pMul at h
  split at h
  · split at h
    · rename_i hc
      simp only [RV] at hx hy
      subst hx hy
      unfold cMul at hc
      have hc2 := of_decide_eq_true hc
      exact .inl ⟨_, _, rfl, rfl, hc2, h H ρ _ (.refl r) rfl⟩
    · exact h.elim
  · split at h
    · rename_i xs e1
      split at h
      · rename_i hc
        rw [Bool.and_eq_true, Bool.and_eq_true] at hc
        obtain ⟨⟨h1, h2⟩, h3⟩ := hc
        obtain ⟨_, rfl⟩ := hx
        simp only [RV] at hy
        subst hy
        obtain ⟨vs, a1, a2⟩ := r.lst e1
        refine .inr ⟨_, _, vs, rfl, rfl, a1, of_decide_eq_true h1, of_decide_eq_true h2, by rw [← a2.length]; exact szOk_le h3, fun w hw => ?_⟩
        exact h _ _ _ (.newL r hw (a2.rep _)) ⟨by simp, by rw [put_same]⟩
      · exact h.elim
    · exact h.elim
  · exact h.elim
def pNeg (x : PV) (st : Sto) : Res PV := match x with
  | .int i => .ok (.int (-i)) st
  | _ => .bad
theorem ok_neg : UnOK J pNeg (rU fun i => .int (-i)) := by
  intro E H ρ st p x Q r hx h
  unfold pNeg at h
  split at h
  · simp only [RV] at hx
    subst hx
    exact ⟨_, rfl, h H ρ _ (.refl r) rfl⟩
  · exact h.elim
/-! ### subscripts -/
def pIx (x y : PV) (st : Sto) : Res PV := match y with
  | .int i => match x with
    | .tup xs => match atI xs i with
      | some v => .ok v st
      | none => .bad
    | .str s => if szOk s.length = true then (match atI s i with
      | some c => .ok (.str [c]) st
      | none => .bad) else .bad
    | .ref k => match lstAt st k with
      | some xs => match atI xs i with
        | some v => .ok v st
        | none => .bad
      | none => .bad
    | _ => .bad
  | _ => .bad
theorem atI_rel {W : Wd} {H : Hp} {ρ : Nat → Addr} {n : Nat} {ps : List PV} {vs : List V} {i : Int} {p : PV} (h : RVs W H ρ n ps vs) (e : atI ps i = some p) : ∃ v, atI vs i = some v ∧ RV W H ρ n p v := by
  unfold atI at e ⊢
  rw [← h.length]
  cases hj : ixN ps.length i with
  | none =>
    rw [hj] at e
    cases e
  | some j =>
    rw [hj] at e
    exact h.get e
theorem ok_ix : OpOK J pIx (rIx J.W.K) := by
  intro E H ρ st p q x y Q r hx hy h
  unfold pIx at h
  split at h
  · rename_i i
    simp only [RV] at hy
    subst hy
    split at h
    · split at h
      · rename_i v ev
        obtain ⟨a, vs, rfl, s, t⟩ := hx
        obtain ⟨w, e, rw'⟩ := atI_rel t ev
        exact .inr (.inl ⟨a, vs, i, w, rfl, rfl, s, e, h H ρ w (.refl r) rw'⟩)
      · exact h.elim
    · split at h
      · rename_i hz
        split at h
        · rename_i c ec
          simp only [RV] at hx
          subst hx
          exact .inr (.inr ⟨_, i, c, rfl, rfl, by rw [str_len]; exact szOk_le hz, by simpa using ec, h H ρ _ (.refl r) rfl⟩)
        · exact h.elim
      · exact h.elim
    · split at h
      · rename_i xs hl
        split at h
        · rename_i v ev
          obtain ⟨_, rfl⟩ := hx
          obtain ⟨vs, s, t⟩ := r.seq hl
          obtain ⟨w, e, rw'⟩ := atI_rel t ev
          exact .inl ⟨_, vs, i, w, rfl, rfl, s, e, h H ρ w (.refl r) rw'⟩
        · exact h.elim
      · exact h.elim
    · exact h.elim
  · exact h.elim
/-! ### truth -/
def pTru (x : PV) (st : Sto) : Option Bool := match x with
  | .non => some false
  | .bl b => some b
  | .int i => some (i != 0)
  | .str s => if szOk s.length = true then some (!s.isEmpty) else none
  | .tup xs => some (!xs.isEmpty)
  | .ref k => match st[k]? with
    | some (.lst xs) => some (!xs.isEmpty)
    | some (.fz xs) => some (!xs.isEmpty)
    | some (.dct xs) => some (!xs.isEmpty)
    | none => none
  | _ => none
theorem RVs.emp {W : Wd} {H : Hp} {ρ : Nat → Addr} {n : Nat} {ps : List PV} {vs : List V} (h : RVs W H ρ n ps vs) : vs.isEmpty = ps.isEmpty := by
  cases ps with
  | nil =>
    have h : vs = [] := h
    subst h
    rfl
  | cons p ps =>
    obtain ⟨v, r, rfl, _⟩ := h
    rfl
theorem tru_V {W : Wd} {H : Hp} {ρ : Nat → Addr} {st : Sto} {p : PV} {x : V} {b : Bool} (r : RSt W H ρ st) (hx : RV W H ρ st.length p x) (h : pTru p st = some b) : TruV W.K x H b := by
  unfold pTru at h
  split at h
  · cases h
    simp only [RV] at hx
    subst hx
    rfl
  · cases h
    simp only [RV] at hx
    subst hx
    rfl
  · cases h
    simp only [RV] at hx
    subst hx
    rfl
  · split at h
    · rename_i s hz
      cases h
      simp only [RV] at hx
      subst hx
      refine ⟨by rw [str_len]; exact szOk_le hz, ?_⟩
      rw [str_len]
      cases s with
      | nil => rfl
      | cons c s =>
        show true = _
        symm
        rw [bne_iff_ne]
        simp only [List.length_cons]
        omega
    · cases h
  · cases h
    obtain ⟨a, vs, rfl, s, t⟩ := hx
    exact .inr (.inl ⟨vs, s, by rw [t.emp]⟩)
  · obtain ⟨_, rfl⟩ := hx
    split at h
    · rename_i xs e
      cases h
      obtain ⟨vs, h1, h2⟩ := r.obj _ _ e
      exact .inl ⟨vs, .of h1, by rw [h2.emp]⟩
    · rename_i xs e
      cases h
      obtain ⟨vs, h1, h2⟩ := r.obj _ _ e
      exact .inl ⟨vs, h1.sq, by rw [h2.emp]⟩
    · rename_i xs e
      cases h
      obtain ⟨vs, h1, h2⟩ := r.obj _ _ e
      refine .inr (.inr ⟨vs, h1, ?_⟩)
      cases xs with
      | nil =>
        have h2 : vs = [] := h2
        subst h2
        rfl
      | cons q xs =>
        obtain ⟨v, w, rfl, _⟩ := h2
        rfl
    · cases h
  · cases h
end
end Mi
end
section
set_option maxRecDepth 100000
set_option maxHeartbeats 4000000
namespace Mi
open PySem PySem.Spec PyProof.Rows L2
/-! ### combinators -/
def dVar (i : Nat) : DE := fun _ env st => match env[i]? with
  | some (some p) => .ok p st
  | _ => .bad
def dC (p : PV) : DE := fun _ _ st => .ok p st
def dBin (f : PV → PV → Sto → Res PV) (a b : DE) : DE := fun th env st => (a th env st).bind fun x st1 => (b th env st1).bind fun y st2 => f x y st2
def dUn (f : PV → Sto → Res PV) (a : DE) : DE := fun th env st => (a th env st).bind fun x st1 => f x st1
def dNil : DL := fun _ _ st => .ok [] st
def dCons (a : DE) (r : DL) : DL := fun th env st => (a th env st).bind fun x st1 => (r th env st1).bind fun xs st2 => .ok (x :: xs) st2
def dApp (f : List PV → Sto → Res PV) (a : DL) : DE := fun th env st => (a th env st).bind fun xs st1 => f xs st1
def dMet (ty : PV → Sto → Bool) (f : PV → List PV → Sto → Res PV) (o : DE) (a : DL) : DE := fun th env st => (o th env st).bind fun x st1 => if ty x st1 = true then (a th env st1).bind fun xs st2 => f x xs st2 else .bad
def fTup (xs : List PV) (st : Sto) : Res PV := if szOk xs.length = true then .ok (.tup xs) st else .bad
def fLst (xs : List PV) (st : Sto) : Res PV := if szOk xs.length = true then .ok (.ref st.length) (st ++ [.lst xs]) else .bad
/-- tests -/
def dTst (a : DE) : DB := fun th env st => (a th env st).bind fun x st1 => match pTru x st1 with
  | some b => .ok b st1
  | none => .bad
def dTB (a : DE) : DB := fun th env st => (a th env st).bind fun x st1 => match x with
  | .bl b => .ok b st1
  | _ => .bad
def dAndT (a b : DB) : DB := fun th env st => (a th env st).bind fun x st1 => match x with
  | true => b th env st1
  | false => .ok false st1
def dOrT (a b : DB) : DB := fun th env st => (a th env st).bind fun x st1 => match x with
  | true => .ok true st1
  | false => b th env st1
def dNotT (a : DB) : DB := fun th env st => (a th env st).bind fun x st1 => .ok (!x) st1
def dAnd (a b : DE) : DE := fun th env st => (a th env st).bind fun x st1 => match x with
  | .bl true => b th env st1
  | .bl false => .ok (.bl false) st1
  | _ => .bad
def dOr (a b : DE) : DE := fun th env st => (a th env st).bind fun x st1 => match x with
  | .bl true => .ok (.bl true) st1
  | .bl false => b th env st1
  | _ => .bad
def dNot (a : DE) : DE := fun th env st => (a th env st).bind fun x st1 => match pTru x st1 with
  | some b => .ok (.bl (!b)) st1
  | none => .bad
def dIf (c : DB) (a b : DE) : DE := fun th env st => (c th env st).bind fun x st1 => match x with
  | true => a th env st1
  | false => b th env st1
/-- a op b op c -/
def dChain (f g : PV → PV → Sto → Res PV) (a b c : DE) : DE := fun th env st => (a th env st).bind fun x st1 => (b th env st1).bind fun y st2 => (f x y st2).bind fun z st3 => match z with
  | .bl true => (c th env st3).bind fun w st4 => g y w st4
  | .bl false => .ok (.bl false) st3
  | _ => .bad

section
variable {X : Cx} {J : Jx}
structure XJ (X : Cx) (J : Jx) : Prop where
  K : J.W.K = X.K
  st : J.tr.Stays J.W
  tk : Takes X J.Wx
variable {a b c : Expr} {da db dc : DE} {pos : Pos}
theorem xe_var {i : Nat} {x : Str} (hN : X.N[i]? = some x) (hv : Vis X.env.scope x) (hd : (x == ("__debug__" : Str)) = false := by decide) (hcd : (x == ("__classdict__" : Str)) = false := by decide) : PE X (.Name x pos) (rdE J (dVar i)) :=
  PE.imp (pe_var hN hv hd hcd) fun σ H Q h => by
    obtain ⟨ρ, th, env, st, S, g⟩ := h
    unfold dVar at g
    split at g
    · rename_i p e
      obtain ⟨v, h1, h2⟩ := S.env.get i p e
      exact ⟨v, h1, g H ρ v (.refl S.rs) h2⟩
    · exact g.elim
/-- what stands for itself -/
theorem rd_c {p : PV} {v : V} (hp : ∀ H ρ n, RV J.W H ρ n p v) {σ : L2.St} {H : Hp} {Q : VK} (h : rdE J (dC p) σ H Q) : Q v H := by
  obtain ⟨ρ, th, env, st, S, g⟩ := h
  exact g H ρ v (.refl S.rs) (hp _ _ _)
theorem xe_int {i : Int} {j} : PE X (.Constant (.int i) j pos) (rdE J (dC (.int i))) := PE.imp pe_int fun _ _ _ h => rd_c (p := .int i) (v := .int i) (fun _ _ _ => rfl) h
theorem xe_bl {i : Bool} {j} : PE X (.Constant (.bool i) j pos) (rdE J (dC (.bl i))) := PE.imp pe_bl fun _ _ _ h => rd_c (p := .bl i) (v := .bl i) (fun _ _ _ => rfl) h
theorem xe_non {j} : PE X (.Constant .none j pos) (rdE J (dC .non)) := PE.imp pe_non fun _ _ _ h => rd_c (p := .non) (v := .non) (fun _ _ _ => rfl) h
theorem xe_str {x : Str} {s : List Nat} {j} (hx : x = ⟨s.toArray⟩) : PE X (.Constant (.str x) j pos) (rdE J (dC (.str s))) := PE.imp pe_str fun _ _ _ h => by
  rw [hx]
  exact rd_c (p := .str s) (v := .str ⟨s.toArray⟩) (fun _ _ _ => rfl) h
theorem xe_glob {x : Str} {v : V} {u : Value} {p : PV} (hg : Gl X x) (hm : X.mg x = some u) (r : RelV v u) (hp : ∀ H ρ n, RV J.W H ρ n p v) (hd : (x == ("__debug__" : Str)) = false := by decide) : PE X (.Name x pos) (rdE J (dC p)) :=
  PE.imp (pe_glob hg hm r hd) fun _ _ _ h => rd_c hp h
theorem rd_bin {f : PV → PV → Sto → Res PV} {r : R2} (J2 : XJ X J) (hk : OpOK J f r) {σ : L2.St} {H : Hp} {Q : VK} (h : rdE J (dBin f da db) σ H Q) : tOp r (rdE J da) (rdE J db) σ H Q := by
  refine rd_bind J2.st h fun ρ th env st v x H1 S rv g => ?_
  refine rd_of S (gR.bind g fun w st2 H2 ρ2 y _ s2 r2 g2 => ?_)
  exact hk _ H2 ρ2 st2 v w x y Q s2.rs (s2.rv rv) r2 g2
theorem xe_bin {op : Operator} {f : PV → PV → Sto → Res PV} {r : R2} (J2 : XJ X J) (ho : OpR X (binaryOp op) r) (hk : OpOK J f r) (ha : PE X a (rdE J da)) (hb : PE X b (rdE J db)) : PE X (.BinOp a op b pos) (rdE J (dBin f da db)) :=
  PE.imp (pe_op ho ha hb) fun _ _ _ h => rd_bin J2 hk h
theorem xe_un {op : UnaryOp} {f : PV → Sto → Res PV} {r : V → Hp → VK → Prop} (J2 : XJ X J) (ho : UnR X (unaryOp op) r) (hk : UnOK J f r) (ha : PE X a (rdE J da)) : PE X (.UnaryOp op a pos) (rdE J (dUn f da)) :=
  PE.imp (pe_un ho ha) fun _ _ _ h => rd_bind J2.st h fun ρ th env st v x H1 S rv g => hk _ H1 ρ st v x _ S.rs rv g
theorem xe_cmp {op : CmpOp} {f : PV → PV → Sto → Res PV} {r : R2} (J2 : XJ X J) (ho : OpR X (compareOp op) r) (hk : OpOK J f r) (ha : PE X a (rdE J da)) (hb : PE X b (rdE J db)) (hm : behindInMarks op b = false) : PE X (.Compare a [op] [b] pos) (rdE J (dBin f da db)) :=
  PE.imp (pe_cmpR ho ha hb hm) fun _ _ _ h => rd_bin J2 hk h
theorem rd_tB {d : DE} (J2 : XJ X J) {σ : L2.St} {H : Hp} {Q : Bool → Hp → Prop} (h : rdB J (dTB d) σ H Q) : rdE J d σ H fun x H' => ∃ k, x = .bl k ∧ Q k H' := by
  refine rd_bind J2.st h fun ρ th env st v x H1 S rv g => ?_
  split at g
  · rename_i b
    have rv : x = .bl b := rv
    subst rv
    exact ⟨b, rfl, g H1 ρ b (.refl S.rs) rfl⟩
  · exact g.elim
theorem xt_cmp {op : CmpOp} {f : PV → PV → Sto → Res PV} {r : R2} (J2 : XJ X J) (ho : OpR X (compareOp op) r) (hk : OpOK J f r) (ha : PE X a (rdE J da)) (hb : PE X b (rdE J db)) (hm : behindInMarks op b = false) : PT X (.Compare a [op] [b] pos) (rdB J (dTB (dBin f da db))) :=
  PT.imp (pt_cmpR ho ha hb hm) fun _ _ _ h => rd_bin J2 hk (rd_tB J2 h)
theorem rd_chain {f g : PV → PV → Sto → Res PV} {r r' : R2} (J2 : XJ X J) (hk : OpOK J f r) (hk' : OpOK J g r') {σ : L2.St} {H : Hp} {Q : VK} (h : rdE J (dChain f g da db dc) σ H Q) : tChain r r' (rdE J da) (rdE J db) (rdE J dc) σ H Q := by
  refine rd_bind J2.st h fun ρ th env st v x H1 S rv g1 => ?_
  refine rd_of S (gR.bind g1 fun w st2 H2 ρ2 y _ s2 r2 g2 => ?_)
  refine hk _ H2 ρ2 st2 v w x y _ s2.rs (s2.rv rv) r2 (gR.bind g2 fun z st3 H3 ρ3 zv _ s3 r3 g3 => ?_)
  have S3 := (S.step J2.st s2).step J2.st s3
  split at g3
  · have r3 : zv = .bl true := r3
    refine ⟨true, r3, ?_⟩
    rw [if_pos rfl]
    refine rd_of S3 (gR.bind g3 fun u st4 H4 ρ4 uv _ s4 r4 g4 => ?_)
    exact hk' _ H4 ρ4 st4 w u y uv Q s4.rs (s4.rv (s3.rv r2)) r4 g4
  · have r3 : zv = .bl false := r3
    refine ⟨false, r3, ?_⟩
    rw [if_neg Bool.false_ne_true]
    exact g3 H3 ρ3 _ (.refl S3.rs) rfl
  · exact g3.elim
theorem xe_chain {op op' : CmpOp} {f g : PV → PV → Sto → Res PV} {r r' : R2} (J2 : XJ X J) (ho : OpR X (compareOp op) r) (ho' : OpR X (compareOp op') r') (hk : OpOK J f r) (hk' : OpOK J g r') (ha : PE X a (rdE J da)) (hb : PE X b (rdE J db)) (hc : PE X c (rdE J dc))
    (hm : lastMarks [op, op'] [b, c] = false) : PE X (.Compare a [op, op'] [b, c] pos) (rdE J (dChain f g da db dc)) :=
  PE.imp (pe_chain ho ho' ha hb hc hm) fun _ _ _ h => rd_chain J2 hk hk' h
theorem xt_chain {op op' : CmpOp} {f g : PV → PV → Sto → Res PV} {r r' : R2} (J2 : XJ X J) (ho : OpR X (compareOp op) r) (ho' : OpR X (compareOp op') r') (hk : OpOK J f r) (hk' : OpOK J g r') (ha : PE X a (rdE J da)) (hb : PE X b (rdE J db)) (hc : PE X c (rdE J dc))
    (hm : lastMarks [op, op'] [b, c] = false) : PT X (.Compare a [op, op'] [b, c] pos) (rdB J (dTB (dChain f g da db dc))) :=
  PT.imp (pt_chain ho ho' ha hb hc hm) fun _ _ _ h => rd_chain J2 hk hk' (rd_tB J2 h)
/-- a test by the truth of a value -/
theorem xt_val (J2 : XJ X J) (ha : PE X a (rdE J da)) (he : ∀ whole, isTrue a X.env whole = (do let v ← whole; standAt a.pos; holding [v] (truthy v)) := by intro _; rfl) : PT X a (rdB J (dTst da)) :=
  PT.imp (pt_truth ha he) fun _ _ _ h => rd_bind J2.st h fun ρ th env st v x H1 S rv g => by
    split at g
    · rename_i b e
      exact ⟨b, by rw [← J2.K]; exact tru_V S.rs rv e, g H1 ρ b (.refl S.rs) rfl⟩
    · exact g.elim
variable {ta tb : DB} {rest : List Expr}
theorem xt_not (J2 : XJ X J) (ha : PT X a (rdB J ta)) : PT X (.UnaryOp .Not a pos) (rdB J (dNotT ta)) :=
  PT.imp (pt_not ha) fun _ _ _ h => rd_bind J2.st h fun ρ th env st v x H1 S rv g => by
    have rv : x = v := rv
    subst rv
    exact g H1 ρ _ (.refl S.rs) rfl
theorem PW.imp {e : Expr} {t t' : TT} (h : PW X e t) (k : ∀ σ H Q, t' σ H Q → t σ H Q) : PW X e t' := ⟨fun wh pins s σ H Q I q => h.run wh pins s σ H Q I (k σ H Q q)⟩
theorem xw_and1 (ha : PT X a (rdB J ta)) : PW X (.BoolOp .And [a] pos) (rdB J ta) := pw_and1 ha
theorem xw_or1 (ha : PT X a (rdB J ta)) : PW X (.BoolOp .Or [a] pos) (rdB J ta) := pw_or1 ha
theorem xw_and (J2 : XJ X J) (ha : PT X a (rdB J ta)) (hb : PW X (.BoolOp .And (b :: rest) pos) (rdB J tb)) : PW X (.BoolOp .And (a :: b :: rest) pos) (rdB J (dAndT ta tb)) :=
  PW.imp (pw_and ha hb) fun _ _ _ h => rd_bind J2.st h fun ρ th env st v x H1 S rv g => by
    have rv : x = v := rv
    subst rv
    cases x with
    | true =>
      rw [if_pos rfl]
      exact rd_of S g
    | false =>
      rw [if_neg Bool.false_ne_true]
      exact g H1 ρ _ (.refl S.rs) rfl
theorem xw_or (J2 : XJ X J) (ha : PT X a (rdB J ta)) (hb : PW X (.BoolOp .Or (b :: rest) pos) (rdB J tb)) : PW X (.BoolOp .Or (a :: b :: rest) pos) (rdB J (dOrT ta tb)) :=
  PW.imp (pw_or ha hb) fun _ _ _ h => rd_bind J2.st h fun ρ th env st v x H1 S rv g => by
    have rv : x = v := rv
    subst rv
    cases x with
    | true =>
      rw [if_pos rfl]
      exact g H1 ρ _ (.refl S.rs) rfl
    | false =>
      rw [if_neg Bool.false_ne_true]
      exact rd_of S g
theorem xe_one {op} (h : PE X a (rdE J da)) : PE X (.BoolOp op [a] pos) (rdE J da) := pe_one h
theorem xe_and (J2 : XJ X J) (ha : PE X a (rdE J da)) (hb : PE X (.BoolOp .And (b :: rest) pos) (rdE J db)) : PE X (.BoolOp .And (a :: b :: rest) pos) (rdE J (dAnd da db)) :=
  PE.imp (pe_and ha hb) fun _ _ _ h => rd_bind J2.st h fun ρ th env st v x H1 S rv g => by
    split at g
    · refine ⟨true, rv, ?_⟩
      rw [if_pos rfl]
      exact rd_of S g
    · refine ⟨false, rv, ?_⟩
      rw [if_neg Bool.false_ne_true]
      exact g H1 ρ _ (.refl S.rs) rfl
    · exact g.elim
theorem xe_or (J2 : XJ X J) (ha : PE X a (rdE J da)) (hb : PE X (.BoolOp .Or (b :: rest) pos) (rdE J db)) : PE X (.BoolOp .Or (a :: b :: rest) pos) (rdE J (dOr da db)) :=
  PE.imp (pe_or ha hb) fun _ _ _ h => rd_bind J2.st h fun ρ th env st v x H1 S rv g => by
    split at g
    · refine ⟨true, rv, ?_⟩
      rw [if_pos rfl]
      exact g H1 ρ _ (.refl S.rs) rfl
    · refine ⟨false, rv, ?_⟩
      rw [if_neg Bool.false_ne_true]
      exact rd_of S g
    · exact g.elim
theorem xe_not (J2 : XJ X J) (ha : PE X a (rdE J da)) : PE X (.UnaryOp .Not a pos) (rdE J (dNot da)) :=
  PE.imp (pe_notT ha) fun _ _ _ h => rd_bind J2.st h fun ρ th env st v x H1 S rv g => by
    split at g
    · rename_i b e
      exact ⟨b, by rw [← J2.K]; exact tru_V S.rs rv e, g H1 ρ _ (.refl S.rs) rfl⟩
    · exact g.elim
theorem xe_if {tc : DB} (J2 : XJ X J) (hc : PT X c (rdB J tc)) (ha : PE X a (rdE J da)) (hb : PE X b (rdE J db)) : PE X (.IfExp c a b pos) (rdE J (dIf tc da db)) :=
  PE.imp (pe_ifExp hc ha hb) fun _ _ _ h => rd_bind J2.st h fun ρ th env st v x H1 S rv g => by
    have rv : x = v := rv
    subst rv
    cases x with
    | true =>
      rw [if_pos rfl]
      exact rd_of S g
    | false =>
      rw [if_neg Bool.false_ne_true]
      exact rd_of S g
/-! ### arguments, displays -/
variable {es : List Expr} {e : Expr} {de : DE} {dl : DL}
theorem xa_nil : PA X [] (rdL J dNil) := PA.imp pa_nil fun _ _ _ h => by
  obtain ⟨ρ, th, env, st, S, g⟩ := h
  exact g _ ρ [] (.refl S.rs) rfl
theorem xa_cons (J2 : XJ X J) (ha : PE X e (rdE J de)) (hr : PA X es (rdL J dl)) (hs : starEach (e :: es) X.env = (false, eval e X.env) :: starEach es X.env := by rfl) : PA X (e :: es) (rdL J (dCons de dl)) :=
  PA.imp (pa_cons ha hr hs) fun _ _ _ h => rd_bind J2.st h fun ρ th env st v x H1 S rv g =>
    rd_of S (gR.bind g fun ps st2 H2 ρ2 xs _ s2 r2 g2 => g2 H2 ρ2 _ (.refl s2.rs) ⟨x, xs, rfl, s2.rv rv, r2⟩)
theorem xe_tup {k} (J2 : XJ X J) (ha : PA X es (rdL J dl)) : PE X (.Tuple es k pos) (rdE J (dApp fTup dl)) :=
  PE.imp (pe_tup ha) fun _ _ _ h => rd_bind J2.st h fun ρ th env st ps xs H1 S rv g => by
    unfold fTup at g
    split at g
    · rename_i hz
      exact ⟨by rw [← rv.length]; exact szOk_le hz, fun p hp => g _ ρ _ (.newT S.rs hp) (rv_newT hp rv)⟩
    · exact g.elim
theorem xe_lst (J2 : XJ X J) (ha : PA X es (rdL J dl)) : PE X (.List es pos) (rdE J (dApp fLst dl)) :=
  PE.imp (pe_lst ha) fun _ _ _ h => rd_bind J2.st h fun ρ th env st ps xs H1 S rv g => by
    unfold fLst at g
    split at g
    · rename_i hz
      exact ⟨by rw [← rv.length]; exact szOk_le hz, fun p hp => g _ _ _ (.newL S.rs hp rv) ⟨by simp, by rw [put_same]⟩⟩
    · exact g.elim
/-! ### subscripts -/
theorem xe_ix (J2 : XJ X J) (ha : PE X a (rdE J da)) (hb : PE X b (rdE J db)) (hs : PlainIx b := by intro _ _; rfl) : PE X (.Subscript a b pos) (rdE J (dBin pIx da db)) :=
  PE.imp (pe_ix ix_seq ha hb hs) fun _ _ _ h => rd_bin J2 (by rw [← J2.K]; exact ok_ix) h
/-! ### calls by name -/
theorem rd_app {f : List PV → Sto → Res PV} {r : List V → Hp → VK → Prop} (J2 : XJ X J) (hk : CallOK J f r) {σ : L2.St} {H : Hp} {Q : VK} (h : rdE J (dApp f dl) σ H Q) : tCB r (rdL J dl) σ H Q :=
  rd_bind J2.st h fun ρ th env st v x H1 S rv g => hk _ H1 ρ st v x _ S.rs rv g
theorem xe_callB {x : Str} {id : String} {f : List PV → Sto → Res PV} {r : List V → Hp → VK → Prop} {p : Pos} (J2 : XJ X J) (hc : CallR X (.builtin id) r) (hk : CallOK J f r) (hg : Gl X x) (hm : X.mg x = none) (hv : bootBuiltins x = some (.builtin id)) (ha : PA X (e :: es) (rdL J dl)) (hn : x ≠ "__name__" := by decide)
    (hdb : (x == ("__debug__" : Str)) = false := by decide) (he : starEach (e :: es) X.env = (false, eval e X.env) :: starEach es X.env := by rfl) (hpl : (backTo pos (starEach es X.env)).any (·.1) = false := by rfl) : PE X (.Call (.Name x p) (e :: es) [] pos) (rdE J (dApp f dl)) :=
  PE.imp (pe_callB hc hg hm hv ha hn hdb he hpl) fun _ _ _ h => rd_app J2 hk h
theorem xe_callTy {x : Str} {T : String} {f : List PV → Sto → Res PV} {r : List V → Hp → VK → Prop} {p : Pos} (J2 : XJ X J) (hc : CallR X (.type T) r) (hk : CallOK J f r) (hg : Gl X x) (hm : X.mg x = none) (hv : bootBuiltins x = some (.type T)) (ha : PA X (e :: es) (rdL J dl)) (hn : x ≠ "__name__" := by decide)
    (hdb : (x == ("__debug__" : Str)) = false := by decide) (he : starEach (e :: es) X.env = (false, eval e X.env) :: starEach es X.env := by rfl) (hpl : (backTo pos (starEach es X.env)).any (·.1) = false := by rfl) : PE X (.Call (.Name x p) (e :: es) [] pos) (rdE J (dApp f dl)) :=
  PE.imp (pe_callTy hc hg hm hv ha hn hdb he hpl) fun _ _ _ h => rd_app J2 hk h
/-! ### methods of built-in types -/
def MetOK (J : Jx) (f : PV → List PV → Sto → Res PV) (r : V → List V → Hp → VK → Prop) : Prop := ∀ (E : XK) (H : Hp) (ρ : Nat → Addr) (st : Sto) (p : PV) (ps : List PV) (x : V) (xs : List V) (Q : VK), RSt J.W H ρ st → RV J.W H ρ st.length p x → RVs J.W H ρ st.length ps xs → gE J.W E (f p ps st) H ρ st.length Q → r x xs H Q
def TyOK (J : Jx) (T : String) (ty : PV → Sto → Bool) : Prop := ∀ (H : Hp) (ρ : Nat → Addr) (st : Sto) (p : PV) (x : V), RSt J.W H ρ st → RV J.W H ρ st.length p x → ty p st = true → tyV J.W.K T x H
theorem xe_met {o : Expr} {name : Str} {apos cpos : Pos} {T id : String} {r : V → List V → Hp → VK → Prop} {f : PV → List PV → Sto → Res PV} {ty : PV → Sto → Bool} {do_ : DE} (J2 : XJ X J) (pa : PlainAttrs T) (slot : Slot T name id) (hty : typeOf (.builtin id) = pure (.type "method_descriptor")) (hm : MtR X id r) (tk : TyOK J T ty) (hk : MetOK J f r)
    (ho : PE X o (rdE J do_)) (ha : PA X (e :: es) (rdL J dl))
    (hbase : attributeBase o name X.env (eval o X.env) = eval o X.env := by rfl)
    (hfew : ((backTo cpos (starEach (e :: es) X.env)).all (fun x => !x.1) && (backToKw cpos (keywordEach [] X.env)).all (fun x => x.1.isSome)
      && decide ((e :: es).length + ([] : List Keyword).length + (if ([] : List Keyword).isEmpty then 0 else 1) < 30)) = true := by rfl)
    (hline : (apos.endLine == cpos.line) = true := by rfl) (hs : starEach (e :: es) X.env = (false, eval e X.env) :: starEach es X.env := by rfl) (hplain : (backTo cpos (starEach es X.env)).any (·.1) = false := by rfl) :
    PE X (.Call (.Attribute o name apos) (e :: es) [] cpos) (rdE J (dMet ty f do_ dl)) :=
  PE.imp (pe_bm pa slot hty hm ho ha hbase hfew hline hs hplain) fun _ _ _ h => rd_bind J2.st h fun ρ th env st v x H1 S rv g => by
    split at g
    · rename_i et
      refine ⟨by rw [← J2.K]; exact tk H1 ρ st v x S.rs rv et, rd_of S (gR.bind g fun ps st2 H2 ρ2 xs _ s2 r2 g2 => ?_)⟩
      exact hk _ H2 ρ2 st2 v ps x xs _ s2.rs (s2.rv rv) r2 g2
    · exact g.elim
theorem xe_met0 {o : Expr} {name : Str} {apos cpos : Pos} {T id : String} {r : V → List V → Hp → VK → Prop} {f : PV → List PV → Sto → Res PV} {ty : PV → Sto → Bool} {do_ : DE} (J2 : XJ X J) (pa : PlainAttrs T) (slot : Slot T name id) (hty : typeOf (.builtin id) = pure (.type "method_descriptor")) (hm : MtR X id r) (tk : TyOK J T ty) (hk : MetOK J f r)
    (ho : PE X o (rdE J do_)) (hbase : attributeBase o name X.env (eval o X.env) = eval o X.env := by rfl) (hline : (apos.endLine == cpos.line) = true := by rfl) :
    PE X (.Call (.Attribute o name apos) [] [] cpos) (rdE J (dMet ty f do_ dNil)) :=
  PE.imp (pe_bm0 pa slot hty hm ho hbase hline) fun _ _ _ h => rd_bind J2.st h fun ρ th env st v x H1 S rv g => by
    split at g
    · rename_i et
      refine ⟨by rw [← J2.K]; exact tk H1 ρ st v x S.rs rv et, ?_⟩
      exact hk _ H1 ρ st v [] x [] _ S.rs rv rfl g
    · exact g.elim
/-! ### calls of defs -/
/-- a def as a function of its arguments and the store -/
abbrev Fn := List PV → Sto → Res PV
/-- the promise: what the function says -/
def spF (W : Wd) (F : Fn) : Sp := fun vs H Q E => ∃ ρ ps st, RSt W H ρ st ∧ RVs W H ρ st.length ps vs ∧ gE W E (F ps st) H ρ st.length Q
end
end Mi
end
section
set_option maxRecDepth 100000
set_option maxHeartbeats 4000000
namespace Mi
open PySem PySem.Spec PyProof.Rows L2
/-! ### targets -/
inductive Tg where
  | nm (i : Nat)
  | tp (ts : List Tg)
mutual
def Tg.set : Tg → PV → Env → Option Env
  | .nm i, p, env => some (env.set i (some p))
  | .tp ts, p, env => match p with
    | .tup xs => Tg.sets ts xs env
    | _ => none
def Tg.sets : List Tg → List PV → Env → Option Env
  | [], xs, env => match xs with
    | [] => some env
    | _ => none
  | t :: ts, xs, env => match xs with
    | x :: xs => match Tg.set t x env with
      | some env => Tg.sets ts xs env
      | none => none
    | [] => none
end
mutual
def Tg.rd (K : PySem.W.Frag) : Tg → TG
  | .nm i => gName i
  | .tp ts => gTup K ts.length (Tg.rds K ts)
def Tg.rds (K : PySem.W.Frag) : List Tg → TGs
  | [] => gNil
  | t :: ts => gCons (Tg.rd K t) (Tg.rds K ts)
end
mutual
def Tg.slots : Tg → List Nat
  | .nm i => [i]
  | .tp ts => Tg.slotss ts
def Tg.slotss : List Tg → List Nat
  | [] => []
  | t :: ts => Tg.slots t ++ Tg.slotss ts
end
/-- slots written, by V -/
inductive SetAt (vs : List Nat) : L2.St → L2.St → Prop
  | refl (σ : L2.St) : SetAt vs σ σ
  | set {σ σ' : L2.St} {i : Nat} {v : V} (hi : i ∈ vs) : SetAt vs σ σ' → SetAt vs σ (σ'.set i (some v))
theorem SetAt.trans {vs : List Nat} {a b c : L2.St} (h : SetAt vs a b) (k : SetAt vs b c) : SetAt vs a c := by
  induction k with
  | refl => exact h
  | set hi _ ih => exact .set hi ih
theorem SetAt.mono {vs us : List Nat} {a b : L2.St} (hs : ∀ i ∈ vs, i ∈ us) (h : SetAt vs a b) : SetAt us a b := by
  induction h with
  | refl => exact .refl _
  | set hi _ ih => exact .set (hs _ hi) ih
theorem wipe_get : ∀ (vs : List Nat) (σ : L2.St) (i : Nat), (L2.wipe σ vs)[i]? = if i ∈ vs then (if i < σ.length then some none else none) else σ[i]?
  | [], σ, i => by simp [L2.wipe]
  | v :: vs, σ, i => by
    show ((L2.wipe σ vs).set v none)[i]? = _
    by_cases h : v = i
    · subst h
      by_cases hl : v < σ.length
      · rw [List.getElem?_set_self (by rw [wipe_length]; exact hl), if_pos (List.mem_cons_self ..), if_pos hl]
      · rw [List.getElem?_eq_none (by rw [List.length_set, wipe_length]; exact Nat.le_of_not_lt hl), if_pos (List.mem_cons_self ..), if_neg hl]
    · rw [List.getElem?_set_ne h, wipe_get vs σ i]
      have : (i ∈ v :: vs) ↔ (i ∈ vs) := by
        rw [List.mem_cons]
        exact ⟨fun z => z.resolve_left fun q => h q.symm, .inr⟩
      simp only [this]
theorem SetAt.len {vs : List Nat} {a b : L2.St} (h : SetAt vs a b) : b.length = a.length := by
  induction h with
  | refl => rfl
  | set _ _ ih => rw [List.length_set, ih]
theorem SetAt.wipe {vs : List Nat} {a b : L2.St} (h : SetAt vs a b) : L2.wipe b vs = L2.wipe a vs := by
  refine List.ext_getElem? fun i => ?_
  rw [wipe_get, wipe_get, h.len]
  by_cases hi : i ∈ vs
  · rw [if_pos hi, if_pos hi]
  · rw [if_neg hi, if_neg hi]
    induction h with
    | refl => rfl
    | @set σ' j v hj _ ih =>
      have : j ≠ i := fun z => hi (z ▸ hj)
      rw [List.getElem?_set_ne this, ih]
section
variable {W : Wd} {H : Hp} {ρ : Nat → Addr} {n : Nat}
mutual
theorem Tg.ok : ∀ (t : Tg) (p : PV) (v : V) (env env' : Env) (σ : L2.St) (Q : L2.St → Hp → Prop), RV W H ρ n p v → REnv W H ρ n env σ → Tg.set t p env = some env' → (∀ σ', REnv W H ρ n env' σ' → SetAt (Tg.slots t) σ σ' → Q σ' H) → Tg.rd W.K t v σ H Q
  | .nm i, p, v, env, env', σ, Q, hv, he, e, k => by
    cases e
    exact k _ (he.set i hv) (.set (List.mem_singleton.mpr rfl) (.refl _))
  | .tp ts, p, v, env, env', σ, Q, hv, he, e, k => by
    cases p with
    | tup xs =>
      obtain ⟨a, vs, rfl, s, r⟩ := hv
      have h := Tg.oks ts xs vs env env' σ Q r he e k
      exact ⟨a, vs, rfl, s, h.1, h.2⟩
    | _ => cases e
theorem Tg.oks : ∀ (ts : List Tg) (ps : List PV) (vs : List V) (env env' : Env) (σ : L2.St) (Q : L2.St → Hp → Prop), RVs W H ρ n ps vs → REnv W H ρ n env σ → Tg.sets ts ps env = some env' → (∀ σ', REnv W H ρ n env' σ' → SetAt (Tg.slotss ts) σ σ' → Q σ' H) → vs.length = ts.length ∧ Tg.rds W.K ts vs σ H Q
  | [], ps, vs, env, env', σ, Q, hv, he, e, k => by
    cases ps with
    | nil =>
      cases e
      have hv : vs = [] := hv
      subst hv
      exact ⟨rfl, rfl, k σ he (.refl _)⟩
    | cons _ _ => cases e
  | t :: ts, ps, vs, env, env', σ, Q, hv, he, e, k => by
    cases ps with
    | nil => cases e
    | cons p ps =>
      obtain ⟨v, us, rfl, h1, h2⟩ := hv
      have e : (match Tg.set t p env with | some env => Tg.sets ts ps env | none => none) = some env' := e
      cases e1 : Tg.set t p env with
      | none =>
        rw [e1] at e
        cases e
      | some env1 =>
        rw [e1] at e
        have e : Tg.sets ts ps env1 = some env' := e
        have key : us.length = ts.length := by
          have : ∀ (ts : List Tg) (ps : List PV) (env : Env), Tg.sets ts ps env = some env' → ps.length = ts.length := by
            intro ts
            induction ts with
            | nil =>
              intro ps env e
              cases ps with
              | nil => rfl
              | cons _ _ => cases e
            | cons t ts ih =>
              intro ps env e
              cases ps with
              | nil => cases e
              | cons p ps =>
                have e : (match Tg.set t p env with | some env => Tg.sets ts ps env | none => none) = some env' := e
                cases e1 : Tg.set t p env with
                | none =>
                  rw [e1] at e
                  cases e
                | some env1 =>
                  rw [e1] at e
                  rw [List.length_cons, List.length_cons, ih ps env1 e]
          rw [← h2.length]
          exact this ts ps env1 e
        refine ⟨by rw [List.length_cons, List.length_cons, key], v, us, rfl, Tg.ok t p v env env1 σ _ h1 he e1 fun σ1 he1 s1 => ?_⟩
        exact (Tg.oks ts ps us env1 env' σ1 Q h2 he1 e fun σ2 he2 s2 => k σ2 he2 ((s1.mono fun i hi => List.mem_append_left _ hi).trans (s2.mono fun i hi => List.mem_append_right _ hi))).2
end
end
/-! ### statements -/
def dSeq (a b : DS) : DS := fun th env st => match a th env st with
  | .nx env st => b th env st
  | r => r
def dSkip : DS := fun _ env st => .nx env st
def dBrk : DS := fun _ env st => .bk env st
def dCnt : DS := fun _ env st => .ct env st
def dNever : DS := fun _ _ _ => .bad
def Res.s {α : Type} (env : Env) : Res α → (α → Sto → RS) → RS
  | .ok a st, f => f a st
  | .exc e st, _ => .exc e env st
  | .bad, _ => .bad
def dExp (a : DE) : DS := fun th env st => (a th env st).s env fun _ st => .nx env st
def dRet (a : DE) : DS := fun th env st => (a th env st).s env fun v st => .rt v st
def dRetN : DS := fun _ _ st => .rt .non st
def dIfS (c : DB) (a b : DS) : DS := fun th env st => (c th env st).s env fun x st => match x with
  | true => a th env st
  | false => b th env st
def dSet (t : Tg) (a : DE) : DS := fun th env st => (a th env st).s env fun v st => match t.set v env with
  | some env => .nx env st
  | none => .bad
def dPar (i j : Nat) (a b : DE) : DS := fun th env st => (a th env st).s env fun x st => (b th env st).s env fun y st => .nx ((env.set i (some x)).set j (some y)) st
/-- o[i] = e -/
def dSub (f : PV → PV → PV → Sto → Option Sto) (o i e : DE) : DS := fun th env st => (e th env st).s env fun v st => (o th env st).s env fun x st => (i th env st).s env fun y st => match f x y v st with
  | some st => .nx env st
  | none => .bad
/-- x op= e -/
def dAug (f : PV → PV → Sto → Res PV) (i : Nat) (e : DE) : DS := fun th env st => match env[i]? with
  | some (some x) => (e th env st).s env fun y st => (f x y st).s env fun z st => .nx (env.set i (some z)) st
  | _ => .bad
/-- what is walked: values; or what the store says at turn i (none: nothing is known; some none: the end) -/
inductive ItD where
  | vals (xs : List PV)
  | dyn (m : Nat) (g : Nat → Sto → Option (Option PV))
abbrev DI := Dn ItD
def forV (t : Tg) (body : DS) (th : Th) : List PV → Env → Sto → RS
  | [], env, st => .nx env st
  | x :: xs, env, st => match t.set x env with
    | some env => match body th env st with
      | .nx env st => forV t body th xs env st
      | .ct env st => forV t body th xs env st
      | .bk env st => .nx env st
      | r => r
    | none => .bad
def forL (t : Tg) (body : DS) (th : Th) (g : Nat → Sto → Option (Option PV)) : Nat → Nat → Env → Sto → RS
  | 0, _, _, _ => .bad
  | m + 1, i, env, st => match g i st with
    | some (some x) => match t.set x env with
      | some env => match body th env st with
        | .nx env st => forL t body th g m (i + 1) env st
        | .ct env st => forL t body th g m (i + 1) env st
        | .bk env st => .nx env st
        | r => r
      | none => .bad
    | some none => .nx env st
    | none => .bad
/-- a list of the store -/
def lstG (k : Nat) : Nat → Sto → Option (Option PV) := fun i st => match lstAt st k with
  | some xs => some xs[i]?
  | none => none
def lenAt (st : Sto) (k : Nat) : Nat := match lstAt st k with
  | some xs => xs.length
  | none => 0
def dFor (it : DI) (t : Tg) (body : DS) : DS := fun th env st => (it th env st).s env fun d st => match d with
  | .vals xs => forV t body th xs env st
  | .dyn m g => forL t body th g m 0 env st
def dWhile (c : DB) (body : DS) : Nat → DS
  | 0 => dNever
  | m + 1 => fun th env st => (c th env st).s env fun b st => match b with
    | true => match body th env st with
      | .nx env st => dWhile c body m th env st
      | .ct env st => dWhile c body m th env st
      | .bk env st => .nx env st
      | r => r
    | false => .nx env st
/-! ### readings of statements -/
section
variable {J : Jx}
theorem gS.bind {W : Wd} {H : Hp} {ρ : Nat → Addr} {n : Nat} {α β : Type} {R : Hp → (Nat → Addr) → Nat → α → β → Prop} {Wx : WX} {env : Env} {σ : L2.St} {r : Res α} {f : α → Sto → RS} {D : Ends} {Q2 : β → Hp → Prop} (he : REnv W H ρ n env σ)
    (h : gS W Wx (r.s env f) H ρ n D) (k : ∀ v st1 H1 ρ1 x, r = .ok v st1 → Stp W H ρ n H1 ρ1 st1 → R H1 ρ1 st1.length v x → gS W Wx (f v st1) H1 ρ1 st1.length D → Q2 x H1) : gR W R (fun c dd H' => Wx c dd σ H') r H ρ n Q2 := by
  cases r with
  | ok v st1 => exact fun H1 ρ1 x s1 q => k v st1 H1 ρ1 x rfl s1 q (gS.pre s1 h)
  | exc e st1 => exact fun H1 ρ1 c d s1 q => h H1 ρ1 σ c d s1 (s1.renv he) q
  | bad => exact h
theorem rs_bind {α β : Type} {R : Hp → (Nat → Addr) → Nat → α → β → Prop} {da : Dn α} {f : α → Th → Env → Sto → RS} {σ : L2.St} {H : Hp} {D : Ends} {Q2 : β → Hp → Prop} (hs : J.tr.Stays J.W)
    (h : rdS J (fun th env st => (da th env st).s env fun v st1 => f v th env st1) D σ H)
    (k : ∀ ρ th env st v x H1, Sit J ρ th env st σ H1 → R H1 ρ st.length v x → gS J.W J.Wx (f v th env st) H1 ρ st.length D → Q2 x H1) : rdR J R da σ H Q2 := by
  obtain ⟨ρ, th, env, st, S, g⟩ := h
  exact ⟨ρ, th, env, st, S, gS.bind S.env g fun v st1 H1 ρ1 x _ s1 r g1 => k ρ1 th env st1 v x H1 (S.step hs s1) r g1⟩
theorem rs_of {d : DS} {ρ : Nat → Addr} {th : Th} {env : Env} {st : Sto} {σ : L2.St} {H : Hp} {D : Ends} (S : Sit J ρ th env st σ H) (g : gS J.W J.Wx (d th env st) H ρ st.length D) : rdS J d D σ H := ⟨ρ, th, env, st, S, g⟩
theorem Sit.to {ρ ρ' : Nat → Addr} {th : Th} {env env' : Env} {st st' : Sto} {σ σ' : L2.St} {H H' : Hp} (hs : J.tr.Stays J.W) (S : Sit J ρ th env st σ H) (s : Stp J.W H ρ st.length H' ρ' st') (e : REnv J.W H' ρ' st'.length env' σ') : Sit J ρ' th env' st' σ' H' :=
  ⟨s.rs, e, hs _ _ _ _ _ _ _ s S.th⟩
end
section
variable {X : Cx} {J : Jx} {a b e o : Expr} {da db de do_ di : DE} {pos : Pos} {s : Stmt} {ss : List Stmt} {ds dt : DS}
theorem ys_nil : PSs X [] (rdS J dSkip) := PSs.imp pss_nil fun D σ H h => by
  obtain ⟨ρ, th, env, st, S, g⟩ := h
  exact g H ρ σ (.refl S.rs) S.env
theorem ys_cons (J2 : XJ X J) (h1 : PS X s (rdS J ds)) (h2 : PSs X ss (rdS J dt)) : PSs X (s :: ss) (rdS J (dSeq ds dt)) := PSs.imp (pss_cons h1 h2) fun D σ H h => by
  obtain ⟨ρ, th, env, st, S, g⟩ := h
  refine rs_of S ?_
  unfold dSeq at g
  cases e : ds th env st with
  | nx env1 st1 =>
    rw [e] at g
    exact fun H1 ρ1 σ1 s1 he => rs_of (S.to J2.st s1 he) (gS.pre s1 g)
  | rt v st1 =>
    rw [e] at g
    exact g
  | bk env1 st1 =>
    rw [e] at g
    exact g
  | ct env1 st1 =>
    rw [e] at g
    exact g
  | exc x env1 st1 =>
    rw [e] at g
    exact g
  | bad =>
    rw [e] at g
    exact g
theorem ys_one (h1 : PS X s (rdS J ds)) : PSs X [s] (rdS J ds) := pss_one h1
theorem ys_pass : PS X (.Pass pos) (rdS J dSkip) := PS.imp ps_pass fun D σ H h => by
  obtain ⟨ρ, th, env, st, S, g⟩ := h
  exact g H ρ σ (.refl S.rs) S.env
theorem ys_break : PS X (.Break pos) (rdS J dBrk) := PS.imp ps_break fun D σ H h => by
  obtain ⟨ρ, th, env, st, S, g⟩ := h
  exact g H ρ σ (.refl S.rs) S.env
theorem ys_cont : PS X (.Continue pos) (rdS J dCnt) := PS.imp ps_continue fun D σ H h => by
  obtain ⟨ρ, th, env, st, S, g⟩ := h
  exact g H ρ σ (.refl S.rs) S.env
theorem ys_never : PS X s (rdS J dNever) := PS.imp ps_never fun D σ H h => by
  obtain ⟨ρ, th, env, st, S, g⟩ := h
  exact g
theorem ys_expr (J2 : XJ X J) (he : PE X e (rdE J de)) (hs : swapsWith e none pos.line X.env = pure false := by rfl) : PS X (.Expr e pos) (rdS J (dExp de)) := PS.imp (ps_expr he hs) fun D σ H h =>
  rs_bind J2.st h fun ρ th env st v x H1 S r g => g H1 ρ σ (.refl S.rs) S.env
theorem ys_ret (J2 : XJ X J) (he : PE X e (rdE J de)) : PS X (.Return (some e) pos) (rdS J (dRet de)) := PS.imp (ps_ret he) fun D σ H h =>
  rs_bind J2.st h fun ρ th env st v x H1 S r g => g H1 ρ x (.refl S.rs) r
theorem ys_retN : PS X (.Return none pos) (rdS J dRetN) := PS.imp ps_retN fun D σ H h => by
  obtain ⟨ρ, th, env, st, S, g⟩ := h
  exact g H ρ .non (.refl S.rs) rfl
theorem ys_if {c : Expr} {sa sb : List Stmt} {dc : DB} (J2 : XJ X J) (hc : PT X c (rdB J dc)) (ha : PSs X sa (rdS J ds)) (hb : PSs X sb (rdS J dt)) : PS X (.If c sa sb pos) (rdS J (dIfS dc ds dt)) := PS.imp (ps_if hc ha hb) fun D σ H h =>
  rs_bind J2.st h fun ρ th env st v x H1 S r g => by
    have r : x = v := r
    subst r
    cases x with
    | true =>
      rw [if_pos rfl]
      exact rs_of S g
    | false =>
      rw [if_neg Bool.false_ne_true]
      exact rs_of S g
theorem rs_set {t : Tg} (J2 : XJ X J) {D : Ends} {σ : L2.St} {H : Hp} (h : rdS J (dSet t de) D σ H) : tAsg (rdE J de) (Tg.rd X.K t) D σ H :=
  rs_bind J2.st h fun ρ th env st v x H1 S r g => by
    split at g
    · rename_i env' e
      rw [← J2.K]
      exact Tg.ok t v x env env' σ _ r S.env e fun σ' he _ => g H1 ρ σ' (.refl S.rs) he
    · exact g.elim
/-- x = e -/
theorem ys_set {i : Nat} {x : Str} {pos' : Pos} (J2 : XJ X J) (hN : X.N.Nodup) (hi : X.N[i]? = some x) (hx : Loc X.env.scope x) (he : PE X e (rdE J de)) (hs : swapsWith e (some (.Name x pos')) pos.line X.env = pure false := by rfl) (hf : X.fn x = true ∨ X.env.scope.names.lookup x = some .local := by first | exact .inl rfl | exact .inr rfl | assumption) :
    PS X (.Assign [.Name x pos'] e pos) (rdS J (dSet (.nm i) de)) := PS.imp (ps_set hN hi hx he hs hf) fun D σ H h => rs_set J2 h
/-- the i-th name is a target -/
theorem yg_nm {i : Nat} {x : Str} (hN : X.N.Nodup) (hi : X.N[i]? = some x) (hx : Loc X.env.scope x) (hf : X.fn x = true ∨ X.env.scope.names.lookup x = some .local := by first | exact .inl rfl | exact .inr rfl | assumption) : PG X (.Name x pos) (Tg.rd X.K (.nm i)) := pg_name hN hi hx hf
theorem ygs_nil : PGs X [] (Tg.rds X.K []) := pgs_nil
theorem ygs_cons {es : List Expr} {t : Tg} {ts : List Tg} (h1 : PG X e (Tg.rd X.K t)) (h2 : PGs X es (Tg.rds X.K ts)) (hs : (assignEach (e :: es) X.env).map (·.2) = assign e X.env :: (assignEach es X.env).map (·.2) := by rfl) : PGs X (e :: es) (Tg.rds X.K (t :: ts)) := pgs_cons h1 h2 hs
theorem yg_tp {es : List Expr} {ts : List Tg} {k : Nat} (hc : X.calm = true) (h : PGs X es (Tg.rds X.K ts)) (hn : (assignEach es X.env).length = ts.length := by rfl) (hst : (assignEach es X.env).findIdx? (·.1) = none := by rfl) : PG X (.Tuple es k pos) (Tg.rd X.K (.tp ts)) := pg_tup hc h hn hst
/-- a, b = e -/
theorem ys_unp {tg : Expr} {t : Tg} (J2 : XJ X J) (he : PE X e (rdE J de)) (hg : PG X tg (Tg.rd X.K t)) (hs : swapsWithSole [tg] e pos.line X.env = pure false := by rfl) (hw : swappedStores [tg] e X.env = pure none := by rfl) (h1 : (assignEach [tg] X.env).map (·.2) = [assign tg X.env] := by rfl) :
    PS X (.Assign [tg] e pos) (rdS J (dSet t de)) := PS.imp (ps_asg he hg hs hw h1) fun D σ H h => rs_set J2 h
/-- a, b = x, y -/
theorem ys_par {i j : Nat} {x y : Str} {px py pt : Pos} {kt k2 pt2} (J2 : XJ X J) (hc : X.calm = true) (hN : X.N.Nodup) (hi : X.N[i]? = some x) (hj : X.N[j]? = some y) (hij : i ≠ j) (hx : X.env.scope.names.lookup x = some .local) (hy : X.env.scope.names.lookup y = some .local)
    (ha : PE X a (rdE J da)) (hb : PE X b (rdE J db)) (hw : swappedStores [.Tuple [.Name x px, .Name y py] kt pt] (.Tuple [a, b] k2 pt2) X.env = pure (some [x, y])) (h1 : starEach [a, b] X.env = (false, eval a X.env) :: starEach [b] X.env := by rfl) (h2 : starEach [b] X.env = (false, eval b X.env) :: starEach [] X.env := by rfl)
    (hs : swapsWithSole [.Tuple [.Name x px, .Name y py] kt pt] (.Tuple [a, b] k2 pt2) pos.line X.env = pure false := by rfl) : PS X (.Assign [.Tuple [.Name x px, .Name y py] kt pt] (.Tuple [a, b] k2 pt2) pos) (rdS J (dPar i j da db)) :=
  PS.imp (ps_par (ta := tCons (rdE J da) (tCons (rdE J db) tNil)) hc hN hi hj hij hx hy (pa_cons ha (pa_cons hb pa_nil h2) h1) hw hs) fun D σ H h =>
    rs_bind J2.st h fun ρ th env st v x H1 S r g => rd_of S (gS.bind S.env g fun w st2 H2 ρ2 y _ s2 r2 g2 => ⟨x, y, rfl, g2 H2 ρ2 _ (.refl s2.rs) (((s2.renv S.env).set i (s2.rv r)).set j r2)⟩)
/-! ### stores -/
def SetOK (J : Jx) (f : PV → PV → PV → Sto → Option Sto) (r : TSet) : Prop := ∀ (H : Hp) (ρ : Nat → Addr) (st st' : Sto) (o i v : PV) (x y z : V) (Q : Hp → Prop), RSt J.W H ρ st → RV J.W H ρ st.length o x → RV J.W H ρ st.length i y → RV J.W H ρ st.length v z → f o i v st = some st' → (∀ H', Stp J.W H ρ st.length H' ρ st' → Q H') → r x y z H Q
def pSetL (o i v : PV) (st : Sto) : Option Sto := match o, i with
  | .ref k, .int j => match st[k]? with
    | some (.lst xs) => match ixN xs.length j with
      | some m => some (st.set k (.lst (xs.set m v)))
      | none => none
    | _ => none
  | _, _ => none
theorem ok_setL : SetOK J pSetL rSetL := by
  intro H ρ st st' o i v x y z Q r ho hi hv e q
  unfold pSetL at e
  split at e
  · split at e
    · rename_i xs e1
      split at e
      · rename_i m em
        cases e
        obtain ⟨_, rfl⟩ := ho
        simp only [RV] at hi
        subst hi
        obtain ⟨vs, h1, h2⟩ := r.lst e1
        exact ⟨_, vs, _, m, rfl, rfl, h1, by rw [← h2.length]; exact em, q _ (.setL r e1 rfl (h2.set hv m))⟩
      · cases e
    · cases e
  · cases e
theorem RVs.set' {W : Wd} {H : Hp} {ρ : Nat → Addr} {n : Nat} {ps : List PV} {vs : List V} {p : PV} {v : V} (h : RVs W H ρ n ps vs) (hp : RV W H ρ n p v) (i : Nat) : RVs W H ρ n (ps.set i p) (vs.set i v) := RVs.set hp i h
theorem ys_sub {i : Expr} {f : PV → PV → PV → Sto → Option Sto} {r : TSet} {p2 : Pos} (J2 : XJ X J) (hp : PSet X r) (hk : SetOK J f r) (ho : PE X o (rdE J do_)) (hi : PE X i (rdE J di)) (he : PE X e (rdE J de))
    (ha : ∀ v, assign (.Subscript o i p2) X.env v = (do
      let ov ← holding [v] (eval o X.env)
      let iv ← holding [v, ov] (eval i X.env)
      standAt p2
      holding [v, ov, iv] (setItem ov iv v)
      release [v, ov, iv] []) := by intro _; rfl)
    (hs : swapsWithSole [.Subscript o i p2] e pos.line X.env = pure false := by rfl) (hw : swappedStores [.Subscript o i p2] e X.env = pure none := by rfl) (h1 : (assignEach [.Subscript o i p2] X.env).map (·.2) = [assign (.Subscript o i p2) X.env] := by rfl) :
    PS X (.Assign [.Subscript o i p2] e pos) (rdS J (dSub f do_ di de)) := PS.imp (ps_asg he (pg_sub ho hi hp ha) hs hw h1) fun D σ H h =>
  rs_bind J2.st h fun ρ th env st v x H1 S r g => rd_of S (gS.bind S.env g fun w st2 H2 ρ2 y _ s2 r2 g2 => rd_of (S.step J2.st s2) (gS.bind (s2.renv S.env) g2 fun u st3 H3 ρ3 z _ s3 r3 g3 => by
    split at g3
    · rename_i st' e
      exact hk H3 ρ3 st3 st' w u v y z x _ s3.rs (s3.rv r2) r3 (s3.rv (s2.rv r)) e fun H' s' => g3 H' ρ3 σ s' ((s3.trans s').renv (s2.renv S.env))
    · exact g3.elim))
/-- x op= e -/
theorem ys_aug {i : Nat} {x : Str} {op : Operator} {f : PV → PV → Sto → Res PV} {r : R2} {pos' : Pos} (J2 : XJ X J) (hN : X.N.Nodup) (hi : X.N[i]? = some x) (hx : Loc X.env.scope x) (he : PE X e (rdE J de)) (ho : OpR X (inplaceOp op) r) (hk : OpOK J f r) (hf : X.fn x = true ∨ X.env.scope.names.lookup x = some .local := by first | exact .inl rfl | exact .inr rfl | assumption) :
    PS X (.AugAssign (.Name x pos') op e pos) (rdS J (dAug f i de)) := PS.imp (ps_aug (ti := r) hN hi hx he ho hf) fun D σ H h => by
  obtain ⟨ρ, th, env, st, S, g⟩ := h
  unfold dAug at g
  split at g
  · rename_i p e
    obtain ⟨v, h1, h2⟩ := S.env.get i p e
    refine ⟨v, h1, rd_of S (gS.bind S.env g fun w st2 H2 ρ2 y _ s2 r2 g2 => ?_)⟩
    exact hk (fun c dd H' => J.Wx c dd σ H') H2 ρ2 st2 p w v y _ s2.rs (s2.rv h2) r2 (gS.bind (s2.renv S.env) g2 fun u st3 H3 ρ3 z _ s3 r3 g3 => g3 H3 ρ3 _ (.refl s3.rs) ((s3.renv (s2.renv S.env)).set i r3))
  · exact g.elim
end
end Mi
end
section
set_option maxRecDepth 100000
set_option maxHeartbeats 4000000
namespace Mi
open PySem PySem.Spec PyProof.Rows L2
/-! ### what is walked -/
/-- J walks d -/
def ItOK (W : Wd) (H0 : Hp) (ρ0 : Nat → Addr) (n0 : Nat) : ItD → It → Prop
  | .vals xs, J => ∀ (i : Nat) (H : Hp) (ρ : Nat → Addr) (st : Sto), Stp W H0 ρ0 n0 H ρ st →
      (∀ p, xs[i]? = some p → J.go i H ∧ ∀ x H', J.yld i H x H' → Stp W H ρ st.length H' ρ st ∧ RV W H' ρ st.length p x) ∧ (i = xs.length → J.stop i H)
  | .dyn _ g, J => ∀ (i : Nat) (H : Hp) (ρ : Nat → Addr) (st : Sto), Stp W H0 ρ0 n0 H ρ st → match g i st with
      | some (some p) => J.go i H ∧ ∀ x H', J.yld i H x H' → Stp W H ρ st.length H' ρ st ∧ RV W H' ρ st.length p x
      | some none => J.stop i H
      | none => True
abbrev rdI (J : Jx) (d : DI) : TI := rdR J (fun H ρ n p x => ItOK J.W H ρ n p x) d
/-- the walk of a def's context: how exceptions go, no handled one -/
structure XK2 (X : Cx) (J : Jx) : Prop extends XJ X J where
  cm : X.calm = true
  nd : X.N.Nodup
  po : PassesOwn (model X.prog X.w) X.A X.env X.xe
  gd : X.A.guards = some []
section
variable {X : Cx} {J : Jx} {tg iter : Expr} {body : List Stmt} {di : DI} {t : Tg} {db : DS} {pos : Pos}
theorem drop_get {α : Type} {xs : List α} {i : Nat} {x : α} {r : List α} (h : xs.drop i = x :: r) : xs[i]? = some x ∧ xs.drop (i + 1) = r := by
  constructor
  · have := congrArg (fun l : List α => l[0]?) h
    simpa using this
  · have := congrArg (fun l : List α => l.drop 1) h
    simpa [List.drop_drop] using this
theorem drop_nil {α : Type} {xs : List α} {i : Nat} (h : xs.drop i = []) (hi : i ≤ xs.length) : i = xs.length := by
  have := List.drop_eq_nil_iff.mp h
  omega
theorem rs_forV (J2 : XJ X J) {xs : List PV} {It0 : It} {ρ0 : Nat → Addr} {th : Th} {env0 : Env} {st0 : Sto} {σ0 : L2.St} {H0 : Hp} {D : Ends} (S0 : Sit J ρ0 th env0 st0 σ0 H0) (hI : ItOK J.W H0 ρ0 st0.length (.vals xs) It0) (g0 : gS J.W J.Wx (forV t db th xs env0 st0) H0 ρ0 st0.length D) :
    ∃ W : Nat → Nat → L2.St → Hp → Prop, (∃ m, W 0 m σ0 H0) ∧ ∀ i m σ H, W i m σ H →
      (It0.stop i H ∧ D.nx σ H) ∨ (It0.go i H ∧ ∃ N : L2.St → Hp → Prop, (∀ σ' H', N σ' H' → ∃ m', m' < m ∧ W (i + 1) m' σ' H') ∧ ∀ x H', It0.yld i H x H' → Tg.rd X.K t x σ H' fun σ2 H2 => rdS J db { D with nx := N, ct := N, bk := D.nx } σ2 H2) := by
  refine ⟨fun i m σ H => ∃ ρ env st r, Sit J ρ th env st σ H ∧ Stp J.W H0 ρ0 st0.length H ρ st ∧ i ≤ xs.length ∧ xs.drop i = r ∧ m = r.length ∧ gS J.W J.Wx (forV t db th r env st) H ρ st.length D,
    ⟨xs.length, ρ0, env0, st0, xs, S0, .refl S0.rs, Nat.zero_le _, rfl, rfl, g0⟩, ?_⟩
  rintro i m σ H ⟨ρ, env, st, r, S, s, hi, hr, hm, g⟩
  obtain ⟨h1, h2⟩ := hI i H ρ st s
  cases r with
  | nil => exact .inl ⟨h2 (drop_nil hr hi), g H ρ σ (.refl S.rs) S.env⟩
  | cons p r =>
    obtain ⟨e1, e2⟩ := drop_get hr
    have hlt : i < xs.length := (List.getElem?_eq_some_iff.mp e1).1
    obtain ⟨h3, h4⟩ := h1 p e1
    refine .inr ⟨h3, fun σ' H' => ∃ ρ env st, Sit J ρ th env st σ' H' ∧ Stp J.W H0 ρ0 st0.length H' ρ st ∧ gS J.W J.Wx (forV t db th r env st) H' ρ st.length D, fun σ' H' ⟨ρ', env', st', S', s', g'⟩ => ?_, fun x H' y => ?_⟩
    · exact ⟨r.length, by rw [hm]; exact Nat.lt_succ_self _, ρ', env', st', r, S', s', hlt, e2, rfl, g'⟩
    · obtain ⟨s1, rv⟩ := h4 x H' y
      have g : gS J.W J.Wx (match t.set p env with
        | some env => match db th env st with
          | .nx env st => forV t db th r env st
          | .ct env st => forV t db th r env st
          | .bk env st => .nx env st
          | r => r
        | none => .bad) H ρ st.length D := g
      split at g
      · rename_i env1 e
        rw [← J2.K]
        refine Tg.ok t p x env env1 σ _ rv (s1.renv S.env) e fun σ1 he1 _ => ?_
        have S1 : Sit J ρ th env1 st σ1 H' := S.to J2.st s1 he1
        have sT := s.trans s1
        refine rs_of S1 (gS.pre s1 ?_)
        cases eb : db th env1 st with
        | nx e2 st2 =>
          rw [eb] at g
          exact fun H2 ρ2 σ2 s2 he => ⟨ρ2, e2, st2, S.to J2.st s2 he, s.trans s2, gS.pre s2 g⟩
        | ct e2 st2 =>
          rw [eb] at g
          exact fun H2 ρ2 σ2 s2 he => ⟨ρ2, e2, st2, S.to J2.st s2 he, s.trans s2, gS.pre s2 g⟩
        | bk e2 st2 =>
          rw [eb] at g
          exact g
        | rt v st2 =>
          rw [eb] at g
          exact g
        | exc x e2 st2 =>
          rw [eb] at g
          exact g
        | bad =>
          rw [eb] at g
          exact g
      · exact g.elim
theorem rs_forL (J2 : XJ X J) {gg : Nat → Sto → Option (Option PV)} {It0 : It} {ρ0 : Nat → Addr} {th : Th} {env0 : Env} {st0 : Sto} {σ0 : L2.St} {H0 : Hp} {D : Ends} {m0 : Nat} (S0 : Sit J ρ0 th env0 st0 σ0 H0) (hI : ItOK J.W H0 ρ0 st0.length (.dyn m0 gg) It0) (g0 : gS J.W J.Wx (forL t db th gg m0 0 env0 st0) H0 ρ0 st0.length D) :
    ∃ W : Nat → Nat → L2.St → Hp → Prop, (∃ m, W 0 m σ0 H0) ∧ ∀ i m σ H, W i m σ H →
      (It0.stop i H ∧ D.nx σ H) ∨ (It0.go i H ∧ ∃ N : L2.St → Hp → Prop, (∀ σ' H', N σ' H' → ∃ m', m' < m ∧ W (i + 1) m' σ' H') ∧ ∀ x H', It0.yld i H x H' → Tg.rd X.K t x σ H' fun σ2 H2 => rdS J db { D with nx := N, ct := N, bk := D.nx } σ2 H2) := by
  refine ⟨fun i m σ H => ∃ ρ env st, Sit J ρ th env st σ H ∧ Stp J.W H0 ρ0 st0.length H ρ st ∧ gS J.W J.Wx (forL t db th gg m i env st) H ρ st.length D,
    ⟨m0, ρ0, env0, st0, S0, .refl S0.rs, g0⟩, ?_⟩
  rintro i m σ H ⟨ρ, env, st, S, s, g⟩
  have hi := hI i H ρ st s
  cases m with
  | zero => exact g.elim
  | succ m =>
    have g : gS J.W J.Wx (match gg i st with
      | some (some x) => match t.set x env with
        | some env => match db th env st with
          | .nx env st => forL t db th gg m (i + 1) env st
          | .ct env st => forL t db th gg m (i + 1) env st
          | .bk env st => .nx env st
          | r => r
        | none => .bad
      | some none => .nx env st
      | none => .bad) H ρ st.length D := g
    cases el : gg i st with
    | none =>
      rw [el] at g
      exact g.elim
    | some ex =>
      rw [el] at g hi
      cases ex with
      | none =>
        exact .inl ⟨hi, g H ρ σ (.refl S.rs) S.env⟩
      | some p =>
        obtain ⟨h3, h4⟩ := hi
        dsimp only at g
        refine .inr ⟨h3, fun σ' H' => ∃ ρ env st, Sit J ρ th env st σ' H' ∧ Stp J.W H0 ρ0 st0.length H' ρ st ∧ gS J.W J.Wx (forL t db th gg m (i + 1) env st) H' ρ st.length D, fun σ' H' h => ⟨m, Nat.lt_succ_self _, h⟩, fun x H' y => ?_⟩
        obtain ⟨s1, rv⟩ := h4 x H' y
        cases ee : t.set p env with
        | none =>
          rw [ee] at g
          exact g.elim
        | some env1 =>
          rw [ee] at g
          dsimp only at g
          rw [← J2.K]
          refine Tg.ok t p x env env1 σ _ rv (s1.renv S.env) ee fun σ1 he1 _ => ?_
          have S1 : Sit J ρ th env1 st σ1 H' := S.to J2.st s1 he1
          have sT := s.trans s1
          refine rs_of S1 (gS.pre s1 ?_)
          cases eb : db th env1 st with
          | nx e2 st2 =>
            rw [eb] at g
            exact fun H2 ρ2 σ2 s2 he => ⟨ρ2, e2, st2, S.to J2.st s2 he, s.trans s2, gS.pre s2 g⟩
          | ct e2 st2 =>
            rw [eb] at g
            exact fun H2 ρ2 σ2 s2 he => ⟨ρ2, e2, st2, S.to J2.st s2 he, s.trans s2, gS.pre s2 g⟩
          | bk e2 st2 =>
            rw [eb] at g
            exact g
          | rt v st2 =>
            rw [eb] at g
            exact g
          | exc x e2 st2 =>
            rw [eb] at g
            exact g
          | bad =>
            rw [eb] at g
            exact g
theorem ys_for (J2 : XK2 X J) (hi : PI X tg iter (rdI J di)) (hg : PG X tg (Tg.rd X.K t)) (hb : PSs X body (rdS J db)) (hs : ∀ x, foldedSetIterable iter X.env x = pure x := by intro _; rfl) : PS X (.For tg iter body [] pos) (rdS J (dFor di t db)) :=
  PS.imp (ps_for J2.po J2.cm hi hg hb hs) fun D σ H h => rs_bind J2.st h fun ρ th env st v x H1 S r g => by
    split at g
    · exact rs_forV J2.toXJ S r g
    · exact rs_forL J2.toXJ S r g
theorem ys_while {c : Expr} {dc : DB} (fuel : Nat) (J2 : XK2 X J) (hc : PT X c (rdB J dc)) (hb : PSs X body (rdS J db)) : PS X (.While c body [] pos) (rdS J (dWhile dc db fuel)) :=
  PS.imp (ps_while J2.po hc hb) fun D σ H h => by
    refine ⟨fun m σ H => rdS J (dWhile dc db m) D σ H, ⟨fuel, h⟩, fun m σ H h => ?_⟩
    cases m with
    | zero =>
      obtain ⟨ρ, th, env, st, S, g⟩ := h
      exact g.elim
    | succ m =>
      refine rs_bind J2.st h fun ρ th env st v x H1 S r g => ?_
      have r : x = v := r
      subst r
      cases x with
      | false =>
        rw [if_neg Bool.false_ne_true]
        exact g H1 ρ σ (.refl S.rs) S.env
      | true =>
        rw [if_pos rfl]
        refine ⟨fun σ' H' => rdS J (dWhile dc db m) D σ' H', fun σ' H' h => ⟨m, Nat.lt_succ_self _, h⟩, rs_of S ?_⟩
        have g : gS J.W J.Wx (match db th env st with
          | .nx env st => dWhile dc db m th env st
          | .ct env st => dWhile dc db m th env st
          | .bk env st => .nx env st
          | r => r) H1 ρ st.length D := g
        cases eb : db th env st with
        | nx e2 st2 =>
          rw [eb] at g
          exact fun H2 ρ2 σ2 s2 he => rs_of (S.to J2.st s2 he) (gS.pre s2 g)
        | ct e2 st2 =>
          rw [eb] at g
          exact fun H2 ρ2 σ2 s2 he => rs_of (S.to J2.st s2 he) (gS.pre s2 g)
        | bk e2 st2 =>
          rw [eb] at g
          exact g
        | rt v st2 =>
          rw [eb] at g
          exact g
        | exc x e2 st2 =>
          rw [eb] at g
          exact g
        | bad =>
          rw [eb] at g
          exact g
end
/-! ### list comprehensions -/
def lcV (t : Tg) (ts : DB) (el : DE) (own : List Nat) (th : Th) (D : Nat) : List PV → Env → Sto → Res Unit
  | [], _, st => .ok () st
  | x :: xs, env, st => match t.set x env with
    | some env1 => (ts th env1 st).bind fun b st => match b with
      | true => (el th env1 st).bind fun y st => match st[D]? with
        | some (.lst acc) => if Nat.blt acc.length 16777216 = true then lcV t ts el own th D xs env (st.set D (.lst (acc ++ [y]))) else .bad
        | _ => .bad
      | false => lcV t ts el own th D xs env st
    | none => .bad
def lcL (t : Tg) (ts : DB) (el : DE) (own : List Nat) (th : Th) (D : Nat) (g : Nat → Sto → Option (Option PV)) : Nat → Nat → Env → Sto → Res Unit
  | 0, _, _, _ => .bad
  | m + 1, i, env, st => match g i st with
    | some (some x) => match t.set x env with
      | some env1 => (ts th env1 st).bind fun b st => match b with
        | true => (el th env1 st).bind fun y st => match st[D]? with
          | some (.lst acc) => if Nat.blt acc.length 16777216 = true then lcL t ts el own th D g m (i + 1) env (st.set D (.lst (acc ++ [y]))) else .bad
          | _ => .bad
        | false => lcL t ts el own th D g m (i + 1) env st
      | none => .bad
    | some none => .ok () st
    | none => .bad
/-- nothing is raised out of a block -/
def Res.quiet {α : Type} : Res α → Res α
  | .exc _ _ => .bad
  | r => r
def dLc (it : DI) (t : Tg) (ts : DB) (el : DE) (own : List Nat) : DE := fun th env st => (it th env st).bind fun d st => match d with
  | .vals xs => (lcV t ts el own th st.length xs (wipeE env own) (st ++ [.lst []])).quiet.bind fun _ st' => .ok (.ref st.length) st'
  | .dyn m g => (lcL t ts el own th st.length g m 0 (wipeE env own) (st ++ [.lst []])).quiet.bind fun _ st' => .ok (.ref st.length) st'
def dYes : DB := fun _ _ st => .ok true st
end Mi
end
section
set_option maxRecDepth 100000
set_option maxHeartbeats 4000000
namespace Mi
open PySem PySem.Spec PyProof.Rows L2
/-- in a block nothing is raised -/
abbrev Jx.blk (J : Jx) : Jx := { J with Wx := fun _ _ _ _ => False }
theorem Sit.blk {J : Jx} {ρ : Nat → Addr} {th : Th} {env : Env} {st : Sto} {σ : L2.St} {H : Hp} (S : Sit J ρ th env st σ H) : Sit J.blk ρ th env st σ H := ⟨S.rs, S.env, S.th⟩
theorem takesF {X : Cx} : Takes X (fun _ _ _ _ => False) := fun _ _ ⟨_, _, _, _, _, _, _, _, _, _, _, _, _, _, _, _, w⟩ => w.elim
theorem XK2.blk {X : Cx} {J : Jx} (h : XK2 X J) (s : Shared) (H : Hp) (scope : Scope) (cenv : PySem.Env) (fp : List Addr) : XK2 (X.blk s H scope cenv fp) J.blk :=
  ⟨⟨h.K, h.st, takesF⟩, h.cm, h.nd, PassesOwn.never, h.gd⟩
theorem wipe_idem (σ : L2.St) (vs : List Nat) : L2.wipe (L2.wipe σ vs) vs = L2.wipe σ vs := by
  refine List.ext_getElem? fun i => ?_
  rw [wipe_get, wipe_get, wipe_length]
  by_cases hi : i ∈ vs
  · rw [if_pos hi, if_pos hi]
  · rw [if_neg hi, if_neg hi]
abbrev gU (W : Wd) (r : Res Unit) (H : Hp) (ρ : Nat → Addr) (n : Nat) (Q : Unit → Hp → Prop) : Prop := gR W (fun _ _ _ _ _ => True) (fun _ _ _ => False) r H ρ n Q
theorem gU_of {W : Wd} {H : Hp} {ρ : Nat → Addr} {n nD : Nat} {D : Addr} {r : Res Unit} {E : XK} {Q : VK} (hn : nD < n) (hD : ρ nD = D) (g : gE W E (r.quiet.bind fun _ st' => .ok (.ref nD) st') H ρ n Q) : gU W r H ρ n (fun _ H' => Q (.ref D) H') := by
  cases r with
  | ok u st' => exact fun H' ρ' x s _ => g H' ρ' (.ref D) s ⟨Nat.lt_of_lt_of_le hn s.len, by rw [s.agr nD hn, hD]⟩
  | exc e st' => exact (show False from g).elim
  | bad => exact g
/-- one turn: the target is set; the test, the element, the new item -/
def lcT (ts : DB) (el : DE) (th : Th) (D : Nat) (k : Sto → Res Unit) (env1 : Env) (st : Sto) : Res Unit := (ts th env1 st).bind fun b st => match b with
  | true => (el th env1 st).bind fun y st => match st[D]? with
    | some (.lst acc) => if Nat.blt acc.length 16777216 = true then k (st.set D (.lst (acc ++ [y]))) else .bad
    | _ => .bad
  | false => k st
section
variable {X : Cx} {J : Jx}
theorem rd_turn (J2 : XJ X J) {ts : DB} {el : DE} {nD : Nat} {D : Addr} {k : Sto → Res Unit} {ρ0 ρ : Nat → Addr} {th : Th} {env1 : Env} {st0 st : Sto} {σ1 : L2.St} {H0 H : Hp} {Q : Unit → Hp → Prop} {Nx : Hp → Prop}
    (S : Sit J.blk ρ th env1 st σ1 H) (s0 : Stp J.W H0 ρ0 st0.length H ρ st) (hn : nD < st0.length) (hD : ρ0 nD = D)
    (g : gU J.W (lcT ts el th nD k env1 st) H ρ st.length Q) (fin : ∀ H' ρ' st', Stp J.W H ρ st.length H' ρ' st' → gU J.W (k st') H' ρ' st'.length Q → Nx H') :
    rdB J.blk ts σ1 H fun b H3 => if b = true then rdE J.blk el σ1 H3 fun y H4 => ∃ acc, H4 D = some (.lst acc) ∧ acc.length < sizeLine ∧ Nx (upd H4 D (.lst (acc ++ [y]))) else Nx H3 := by
  refine rd_of S (gR.bind g fun b st2 H2 ρ2 x _ s2 r2 g2 => ?_)
  have r2 : x = b := r2
  subst r2
  cases x with
  | false =>
    rw [if_neg Bool.false_ne_true]
    exact fin H2 ρ2 st2 s2 g2
  | true =>
    rw [if_pos rfl]
    refine rd_of (S.step J2.st s2) (gR.bind g2 fun y st3 H3 ρ3 yv _ s3 r3 g3 => ?_)
    have sT := (s0.trans s2).trans s3
    split at g3
    · rename_i acc ea
      split at g3
      · rename_i hz
        obtain ⟨vs, h1, h2⟩ := s3.rs.lst ea
        have e1 : ρ3 nD = D := by rw [sT.agr nD hn, hD]
        have w := Stp.setL s3.rs ea rfl (h2.append (show RVs J.W H3 ρ3 st3.length [y] [yv] from ⟨yv, [], rfl, r3, rfl⟩))
        rw [e1] at h1 w
        refine ⟨vs, h1, ?_, fin _ _ _ ((s2.trans s3).trans w) ?_⟩
        · rw [← h2.length, sizeLine_eq]
          exact Nat.le_of_ble_eq_true hz
        · exact gR.pre w g3
      · exact g3.elim
    · exact g3.elim
theorem rd_lcV (J2 : XJ X J) {xs : List PV} {It0 : It} {nD : Nat} {D : Addr} {t : Tg} {ts : DB} {el : DE} {own : List Nat} {ρ0 : Nat → Addr} {th : Th} {env0 : Env} {st0 : Sto} {σ : L2.St} {H0 : Hp} {Q : Unit → Hp → Prop} (S0 : Sit J.blk ρ0 th env0 st0 (L2.wipe σ own) H0)
    (hI : ItOK J.W H0 ρ0 st0.length (.vals xs) It0) (hn : nD < st0.length) (hD : ρ0 nD = D) (ht : ∀ i ∈ t.slots, i ∈ own) (g0 : gU J.W (lcV t ts el own th nD xs env0 st0) H0 ρ0 st0.length Q) :
    ∃ W : Nat → Nat → Hp → Prop, (∃ m, W 0 m H0) ∧ ∀ i m H, W i m H →
      (It0.stop i H ∧ Q () H) ∨ (It0.go i H ∧ ∃ Nx : Hp → Prop, (∀ H', Nx H' → ∃ m', m' < m ∧ W (i + 1) m' H') ∧ ∀ x H', It0.yld i H x H' → Tg.rd X.K t x (L2.wipe σ own) H' fun σ2 H2 => L2.wipe σ2 own = L2.wipe σ own ∧ rdB J.blk ts σ2 H2 fun b H3 =>
        if b = true then rdE J.blk el σ2 H3 fun y H4 => ∃ acc, H4 D = some (.lst acc) ∧ acc.length < sizeLine ∧ Nx (upd H4 D (.lst (acc ++ [y]))) else Nx H3) := by
  refine ⟨fun i m H => ∃ ρ st r, Sit J.blk ρ th env0 st (L2.wipe σ own) H ∧ Stp J.W H0 ρ0 st0.length H ρ st ∧ i ≤ xs.length ∧ xs.drop i = r ∧ m = r.length ∧ gU J.W (lcV t ts el own th nD r env0 st) H ρ st.length Q,
    ⟨xs.length, ρ0, st0, xs, S0, .refl S0.rs, Nat.zero_le _, rfl, rfl, g0⟩, ?_⟩
  rintro i m H ⟨ρ, st, r, S, s, hi, hr, hm, g⟩
  obtain ⟨h1, h2⟩ := hI i H ρ st s
  cases r with
  | nil => exact .inl ⟨h2 (drop_nil hr hi), g H ρ () (.refl S.rs) trivial⟩
  | cons p r =>
    obtain ⟨e1, e2⟩ := drop_get hr
    have hlt : i < xs.length := (List.getElem?_eq_some_iff.mp e1).1
    obtain ⟨h3, h4⟩ := h1 p e1
    refine .inr ⟨h3, fun H' => ∃ ρ st, Sit J.blk ρ th env0 st (L2.wipe σ own) H' ∧ Stp J.W H0 ρ0 st0.length H' ρ st ∧ gU J.W (lcV t ts el own th nD r env0 st) H' ρ st.length Q, fun H' ⟨ρ', st', S', s', g'⟩ => ?_, fun x H' y => ?_⟩
    · exact ⟨r.length, by rw [hm]; exact Nat.lt_succ_self _, ρ', st', r, S', s', hlt, e2, rfl, g'⟩
    · obtain ⟨s1, rv⟩ := h4 x H' y
      have g : gU J.W (match t.set p env0 with
        | some env1 => lcT ts el th nD (fun st => lcV t ts el own th nD r env0 st) env1 st
        | none => .bad) H ρ st.length Q := g
      split at g
      · rename_i env1 e
        rw [← J2.K]
        refine Tg.ok t p x env0 env1 _ _ rv (s1.renv S.env) e fun σ1 he1 sa => ⟨by rw [(sa.mono ht).wipe, wipe_idem], ?_⟩
        have S1 : Sit J.blk ρ th env1 st σ1 H' := S.to J2.st s1 he1
        refine rd_turn J2 S1 (s.trans s1) hn hD (gR.pre s1 g) fun H2 ρ2 st2 s2 g2 => ⟨ρ2, st2, ?_, (s.trans s1).trans s2, g2⟩
        exact S.to J2.st (s1.trans s2) ((s1.trans s2).renv S.env)
      · exact g.elim
theorem rd_lcL (J2 : XJ X J) {gg : Nat → Sto → Option (Option PV)} {It0 : It} {nD : Nat} {D : Addr} {t : Tg} {ts : DB} {el : DE} {own : List Nat} {ρ0 : Nat → Addr} {th : Th} {env0 : Env} {st0 : Sto} {σ : L2.St} {H0 : Hp} {Q : Unit → Hp → Prop} {m0 : Nat} (S0 : Sit J.blk ρ0 th env0 st0 (L2.wipe σ own) H0)
    (hI : ItOK J.W H0 ρ0 st0.length (.dyn m0 gg) It0) (hn : nD < st0.length) (hD : ρ0 nD = D) (ht : ∀ i ∈ t.slots, i ∈ own) (g0 : gU J.W (lcL t ts el own th nD gg m0 0 env0 st0) H0 ρ0 st0.length Q) :
    ∃ W : Nat → Nat → Hp → Prop, (∃ m, W 0 m H0) ∧ ∀ i m H, W i m H →
      (It0.stop i H ∧ Q () H) ∨ (It0.go i H ∧ ∃ Nx : Hp → Prop, (∀ H', Nx H' → ∃ m', m' < m ∧ W (i + 1) m' H') ∧ ∀ x H', It0.yld i H x H' → Tg.rd X.K t x (L2.wipe σ own) H' fun σ2 H2 => L2.wipe σ2 own = L2.wipe σ own ∧ rdB J.blk ts σ2 H2 fun b H3 =>
        if b = true then rdE J.blk el σ2 H3 fun y H4 => ∃ acc, H4 D = some (.lst acc) ∧ acc.length < sizeLine ∧ Nx (upd H4 D (.lst (acc ++ [y]))) else Nx H3) := by
  refine ⟨fun i m H => ∃ ρ st, Sit J.blk ρ th env0 st (L2.wipe σ own) H ∧ Stp J.W H0 ρ0 st0.length H ρ st ∧ gU J.W (lcL t ts el own th nD gg m i env0 st) H ρ st.length Q,
    ⟨m0, ρ0, st0, S0, .refl S0.rs, g0⟩, ?_⟩
  rintro i m H ⟨ρ, st, S, s, g⟩
  have hi := hI i H ρ st s
  cases m with
  | zero => exact g.elim
  | succ m =>
    have g : gU J.W (match gg i st with
      | some (some x) => match t.set x env0 with
        | some env1 => lcT ts el th nD (fun st => lcL t ts el own th nD gg m (i + 1) env0 st) env1 st
        | none => .bad
      | some none => .ok () st
      | none => .bad) H ρ st.length Q := g
    cases el' : gg i st with
    | none =>
      rw [el'] at g
      exact g.elim
    | some ex =>
      rw [el'] at g hi
      cases ex with
      | none =>
        exact .inl ⟨hi, g H ρ () (.refl S.rs) trivial⟩
      | some p =>
        obtain ⟨h3, h4⟩ := hi
        dsimp only at g
        refine .inr ⟨h3, fun H' => ∃ ρ st, Sit J.blk ρ th env0 st (L2.wipe σ own) H' ∧ Stp J.W H0 ρ0 st0.length H' ρ st ∧ gU J.W (lcL t ts el own th nD gg m (i + 1) env0 st) H' ρ st.length Q, fun H' h => ⟨m, Nat.lt_succ_self _, h⟩, fun x H' y => ?_⟩
        obtain ⟨s1, rv⟩ := h4 x H' y
        cases ee : t.set p env0 with
        | none =>
          rw [ee] at g
          exact g.elim
        | some env1 =>
          rw [ee] at g
          dsimp only at g
          rw [← J2.K]
          refine Tg.ok t p x env0 env1 _ _ rv (s1.renv S.env) ee fun σ1 he1 sa => ⟨by rw [(sa.mono ht).wipe, wipe_idem], ?_⟩
          have S1 : Sit J.blk ρ th env1 st σ1 H' := S.to J2.st s1 he1
          refine rd_turn J2 S1 (s.trans s1) hn hD (gR.pre s1 g) fun H2 ρ2 st2 s2 g2 => ⟨ρ2, st2, ?_, (s.trans s1).trans s2, g2⟩
          exact S.to J2.st (s1.trans s2) ((s1.trans s2).renv S.env)
/-- the reading of a comprehension -/
theorem rd_lc (J2 : XJ X J) {di : DI} {t : Tg} {ts : DB} {el : DE} {own : List Nat} (ht : ∀ i ∈ t.slots, i ∈ own) {σ : L2.St} {H : Hp} {Q : VK} (h : rdE J (dLc di t ts el own) σ H Q) : tLc (rdI J di) (Tg.rd X.K t) (rdB J.blk ts) (rdE J.blk el) own σ H Q := by
  refine rd_bind J2.st h fun ρ th env st d It0 H1 S hI g => fun D hD => ?_
  have s1 : Stp J.W H1 ρ st.length (upd H1 D (.lst [])) (put ρ st.length D) (st ++ [.lst []]) := .newL S.rs hD rfl
  have len : (st ++ [SO.lst []]).length = st.length + 1 := by simp
  have S1 : Sit J.blk (put ρ st.length D) th (wipeE env own) (st ++ [.lst []]) (L2.wipe σ own) (upd H1 D (.lst [])) := S.blk.to (J := J.blk) J2.st s1 ((s1.renv S.env).wipe own)
  have hn : st.length < (st ++ [SO.lst []]).length := by omega
  split at g
  · rename_i xs
    refine rd_lcV (Q := fun _ H' => Q (.ref D) H') J2 S1 (fun i H' ρ' st' s' => hI i H' ρ' st' (s1.trans s')) hn put_same ht (gU_of hn put_same (gR.pre s1 g))
  · exact rd_lcL (Q := fun _ H' => Q (.ref D) H') J2 S1 (fun i H' ρ' st' s' => hI i H' ρ' st' (s1.trans s')) hn put_same ht (gU_of hn put_same (gR.pre s1 g))
theorem pts_of {c : Expr} {dt : DB} (h : PT X c (rdB J dt)) : PTs X [c] (rdB J dt) := pts_one h
theorem pts_yes : PTs X [] (rdB J dYes) := ⟨fun pins s σ H Q I h => pts_nil.run pins s σ H Q I (by
  obtain ⟨ρ, th, env, st, S, g⟩ := h
  exact g H ρ true (.refl S.rs) rfl)⟩
theorem xe_lc {elt tg iter : Expr} {ifs : List Expr} {scope : Scope} {own : List (Str × Nat)} {pos : Pos} {di : DI} {t : Tg} {ts : DB} {el : DE} (J2 : XK2 X J) (hi : PI X tg iter (rdI J di)) (ok : blkC X.N X.env.scope scope own = true) (hsl : (t.slots.all fun i => (own.map (·.2)).contains i) = true)
    (hg : ∀ (s : Shared) (H : Hp) (C : Addr) (cl : List (Str × Addr)) (fp : List Addr), PG (X.blk s H scope (compEnvC scope cl C X.env) fp) tg (Tg.rd X.K t)) (ht : ∀ (s : Shared) (H : Hp) (C : Addr) (cl : List (Str × Addr)) (fp : List Addr), PTs (X.blk s H scope (compEnvC scope cl C X.env) fp) ifs (rdB J.blk ts))
    (he : ∀ (s : Shared) (H : Hp) (C : Addr) (cl : List (Str × Addr)) (fp : List Addr), PE (X.blk s H scope (compEnvC scope cl C X.env) fp) elt (rdE J.blk el)) (hs : ∀ x, foldedSetIterable iter X.env x = pure x := by intro _; rfl) :
    PE X (.ListComp elt [⟨tg, iter, ifs, 0⟩] scope pos) (rdE J (dLc di t ts el (own.map (·.2)))) :=
  PE.imp (pe_lc J2.cm J2.nd hi (blkOk_by ok) hg ht he hs) fun σ H Q h => rd_lc J2.toXJ (fun i hi => by simpa using List.all_eq_true.mp hsl i hi) h
theorem ys_setLc {i : Nat} {y : Str} {py : Pos} {elt tg iter : Expr} {ifs : List Expr} {scope : Scope} {own : List (Str × Nat)} {pos spos : Pos} {di : DI} {t : Tg} {ts : DB} {el : DE} (J2 : XK2 X J) (hy : X.N[i]? = some y) (hyl : X.env.scope.names.lookup y = some .local)
    (hsw : swapsWith (.ListComp elt [⟨tg, iter, ifs, 0⟩] scope pos) (some (.Name y py)) spos.line X.env = pure true) (hi : PI X tg iter (rdI J di)) (ok : blkC X.N X.env.scope scope own = true) (hsl : (t.slots.all fun i => (own.map (·.2)).contains i) = true)
    (hg : ∀ (s : Shared) (H : Hp) (C : Addr) (cl : List (Str × Addr)) (fp : List Addr), PG (X.blk s H scope (compEnvC scope cl C X.env) fp) tg (Tg.rd X.K t)) (ht : ∀ (s : Shared) (H : Hp) (C : Addr) (cl : List (Str × Addr)) (fp : List Addr), PTs (X.blk s H scope (compEnvC scope cl C X.env) fp) ifs (rdB J.blk ts))
    (he : ∀ (s : Shared) (H : Hp) (C : Addr) (cl : List (Str × Addr)) (fp : List Addr), PE (X.blk s H scope (compEnvC scope cl C X.env) fp) elt (rdE J.blk el)) (hs : ∀ x, foldedSetIterable iter X.env x = pure x := by intro _; rfl) :
    PS X (.Assign [.Name y py] (.ListComp elt [⟨tg, iter, ifs, 0⟩] scope pos) spos) (rdS J (dSet (.nm i) (dLc di t ts el (own.map (·.2))))) :=
  PS.imp (ps_setLc J2.cm J2.nd hy hyl hsw hi (blkOk_by ok) hg ht he hs) fun D σ H h => by
    have h2 := rs_set J2.toXJ h
    exact rd_lc (σ := σ) J2.toXJ (fun i hi => by simpa using List.all_eq_true.mp hsl i hi) h2
end
end Mi
end
section
set_option maxRecDepth 100000
set_option maxHeartbeats 4000000
namespace Mi
open PySem PySem.Spec PyProof.Rows L2
/-! ### what the iterators of the layer walk -/
section
variable {W : Wd} {H0 : Hp} {ρ0 : Nat → Addr} {n0 : Nat}
theorem it_lst {k m : Nat} (hk : k < n0) : ItOK W H0 ρ0 n0 (.dyn m (lstG k)) (Itl W.K (ρ0 k)) := fun i H ρ st s => by
  unfold lstG
  cases e : lstAt st k with
  | none => trivial
  | some xs =>
    obtain ⟨vs, q, hv⟩ := s.rs.seq e
    rw [s.agr k hk] at q
    dsimp only
    cases ex : xs[i]? with
    | none => exact ⟨vs, q, by rw [← hv.length]; exact List.getElem?_eq_none_iff.mp ex⟩
    | some p =>
      obtain ⟨v, e1, rv⟩ := hv.get ex
      refine ⟨⟨vs, v, q, e1⟩, fun x H' ⟨e2, y⟩ => ?_⟩
      subst e2
      have e3 := y vs q
      rw [e1] at e3
      cases e3
      exact ⟨.refl s.rs, rv⟩
theorem it_tup {a : Addr} {ps : List PV} {vs : List V} (hs : SqT W.K H0 a vs) (hv : RVs W H0 ρ0 n0 ps vs) : ItOK W H0 ρ0 n0 (.vals ps) (Itt W.K a) := fun i H ρ st s => by
  have hq := s.ext.sqT hs
  have hr := s.rvs hv
  refine ⟨fun p e => ?_, fun e => ⟨vs, hq, by rw [← hv.length, e]; exact Nat.le_refl _⟩⟩
  obtain ⟨v, e1, rv⟩ := hr.get e
  refine ⟨⟨vs, v, hq, e1⟩, fun x H' ⟨e2, y⟩ => ?_⟩
  subst e2
  have e3 := y vs hq
  rw [e1] at e3
  cases e3
  exact ⟨.refl s.rs, rv⟩
theorem it_str {xs : List Nat} : ItOK W H0 ρ0 n0 (.vals (xs.map fun c => .str [c])) (Its ⟨xs.toArray⟩) := fun i H ρ st s => by
  refine ⟨fun p e => ?_, fun e => by
    show xs.toArray.size ≤ i
    rw [e, List.length_map, List.size_toArray] <;> exact Nat.le_refl _⟩
  rw [List.getElem?_map] at e
  cases ex : xs[i]? with
  | none =>
    rw [ex] at e
    cases e
  | some c =>
    rw [ex] at e
    cases e
    have hl : i < xs.length := (List.getElem?_eq_some_iff.mp ex).1
    refine ⟨by
      show i < xs.toArray.size
      rw [List.size_toArray]
      exact hl, fun x H' ⟨e2, d, e3, e4⟩ => ?_⟩
    subst e2 e4
    have e5 : xs.toArray[i]? = some d := e3
    rw [List.getElem?_toArray, ex] at e5
    cases e5
    exact ⟨.refl s.rs, rfl⟩
def rngV (lo c : Int) : Nat → List PV
  | 0 => []
  | n + 1 => .int lo :: rngV (lo + c) c n
theorem rngV_get (c : Int) : ∀ (n : Nat) (lo : Int) (i : Nat) (p : PV), (rngV lo c n)[i]? = some p → i < n ∧ p = .int (lo + (i : Nat) * c)
  | 0, lo, i, p, e => by simp [rngV] at e
  | n + 1, lo, 0, p, e => by
    simp [rngV] at e
    subst e
    exact ⟨Nat.succ_pos _, by simp⟩
  | n + 1, lo, i + 1, p, e => by
    obtain ⟨h1, h2⟩ := rngV_get c n (lo + c) i p (by simpa [rngV] using e)
    refine ⟨Nat.succ_lt_succ h1, ?_⟩
    rw [h2]
    congr 1
    push_cast
    rw [Int.add_mul, Int.one_mul]
    omega
theorem rngV_len (c : Int) : ∀ (n : Nat) (lo : Int), (rngV lo c n).length = n
  | 0, _ => rfl
  | n + 1, lo => by rw [rngV, List.length_cons, rngV_len c n]
theorem it_rng {lo : Int} {n : Nat} : ItOK W H0 ρ0 n0 (.vals (rngV lo 1 n)) (Itr lo n) := fun i H ρ st s => by
  refine ⟨fun p e => ?_, fun e => by
    rw [rngV_len] at e
    exact Nat.le_of_eq e.symm⟩
  obtain ⟨h1, h2⟩ := rngV_get 1 n lo i p e
  refine ⟨h1, fun x H' ⟨e2, e3⟩ => ?_⟩
  subst e2 e3 h2
  exact ⟨.refl s.rs, by rw [Int.mul_one]; rfl⟩
theorem it_rngC {lo c : Int} {n : Nat} : ItOK W H0 ρ0 n0 (.vals (rngV lo c n)) (Itc lo c n) := fun i H ρ st s => by
  refine ⟨fun p e => ?_, fun e => by
    rw [rngV_len] at e
    exact Nat.le_of_eq e.symm⟩
  obtain ⟨h1, h2⟩ := rngV_get c n lo i p e
  refine ⟨h1, fun x H' ⟨e2, e3⟩ => ?_⟩
  subst e2 e3 h2
  exact ⟨.refl s.rs, rfl⟩
end
/-! ### combinators -/
/-- a list, a tuple, a text, walked -/
def itOf (v : PV) (st : Sto) : Res ItD := match v with
  | .ref k => match lstAt st k with
    | some xs => .ok (.dyn (xs.length + 1) (lstG k)) st
    | none => .bad
  | .tup xs => .ok (.vals xs) st
  | .str s => .ok (.vals (s.map fun c => .str [c])) st
  | _ => .bad
def dIt (d : DE) : DI := fun th env st => (d th env st).bind fun v st => itOf v st
def okI (i : Int) : Bool := decide (-(2 ^ 62) ≤ i) && decide (i < 2 ^ 62)
theorem okI_le {i : Int} (h : okI i = true) : -(2 ^ 62) ≤ i ∧ i < 2 ^ 62 := by
  unfold okI at h
  rw [Bool.and_eq_true] at h
  exact ⟨of_decide_eq_true h.1, of_decide_eq_true h.2⟩
def fRng1 (xs : List PV) (st : Sto) : Res ItD := match xs with
  | [.int j] => if okI j = true then .ok (.vals (rngV 0 1 j.toNat)) st else .bad
  | _ => .bad
def fRng2 (xs : List PV) (st : Sto) : Res ItD := match xs with
  | [.int i, .int j] => if (okI i && okI j) = true then .ok (.vals (rngV i 1 (j - i).toNat)) st else .bad
  | _ => .bad
def okC (i j c : Int) (n : Nat) : Bool := (c != 0) && decide (c.natAbs < 1073741824) && Builtin.Range.small i j c && (Builtin.Range.rangeSize i j c == n)
def fRng3 (xs : List PV) (st : Sto) : Res ItD := match xs with
  | [.int i, .int j, .int c] => if okC i j c (Builtin.Range.rangeSize i j c).toNat = true then .ok (.vals (rngV i c (Builtin.Range.rangeSize i j c).toNat)) st else .bad
  | _ => .bad
def dRng (f : List PV → Sto → Res ItD) (a : DL) : DI := fun th env st => (a th env st).bind fun xs st => f xs st
section
variable {X : Cx} {J : Jx} {tg e : Expr} {de : DE}
theorem PI.imp {iter : Expr} {w w' : TI} (h : PI X tg iter w) (k : ∀ σ H R, w' σ H R → w σ H R) : PI X tg iter w' := ⟨fun pins s σ H R I q => h.run pins s σ H R I (k σ H R q)⟩
theorem PI.byCases {iter : Expr} {w' : TI} (k : ∀ σ H R, w' σ H R → ∃ w : TI, PI X tg iter w ∧ w σ H R) : PI X tg iter w' := ⟨fun pins s σ H R I q => by
  obtain ⟨w, h, q⟩ := k σ H R q
  exact h.run pins s σ H R I q⟩
theorem xi_val (J2 : XJ X J) (he : PE X e (rdE J de)) : PI X tg e (rdI J (dIt de)) := PI.byCases fun σ H R h => by
  obtain ⟨ρ, th, env, st, S, g⟩ := h
  unfold dIt at g
  cases r : de th env st with
  | bad =>
    rw [r] at g
    exact g.elim
  | exc x st' =>
    refine ⟨_, pi_list he, ρ, th, env, st, S, ?_⟩
    rw [r] at g ⊢
    exact g
  | ok v st' =>
    rw [r] at g
    replace g : gR J.W (fun H ρ n p x => ItOK J.W H ρ n p x) (fun c dd H' => J.Wx c dd σ H') (itOf v st') H ρ st.length R := g
    unfold itOf at g
    split at g
    · split at g
      · rename_i k xs ex
        refine ⟨_, pi_list he, ρ, th, env, st, S, ?_⟩
        rw [r]
        intro H' ρ' x s rv
        obtain ⟨hk, rfl⟩ := rv
        obtain ⟨vs, q, _⟩ := s.rs.seq ex
        exact ⟨_, rfl, ⟨vs, by rw [← J2.K]; exact q⟩, by rw [← J2.K]; exact g H' ρ' _ s (it_lst hk)⟩
      · exact g.elim
    · refine ⟨_, pi_tup he, ρ, th, env, st, S, ?_⟩
      rw [r]
      intro H' ρ' x s rv
      obtain ⟨a, vs, rfl, hs, hv⟩ := rv
      exact ⟨_, rfl, ⟨vs, by rw [← J2.K]; exact hs⟩, by rw [← J2.K]; exact g H' ρ' _ s (it_tup hs hv)⟩
    · refine ⟨_, pi_str he, ρ, th, env, st, S, ?_⟩
      rw [r]
      intro H' ρ' x s rv
      exact ⟨_, rv, g H' ρ' _ s it_str⟩
    · exact g.elim
theorem xi_rng1 {a : Expr} {dl : DL} {p pos : Pos} (J2 : XJ X J) (hg : Gl X "range") (hm : X.mg "range" = none) (ha : PA X [a] (rdL J dl)) (hs : starEach [a] X.env = [(false, eval a X.env)] := by rfl) : PI X tg (.Call (.Name "range" p) [a] [] pos) (rdI J (dRng fRng1 dl)) :=
  PI.imp (pi_range1 hg hm ha hs) fun σ H R h => rd_bind J2.st h fun ρ th env st v x H1 S rv g => by
    unfold fRng1 at g
    split at g
    · split at g
      · rename_i j hj
        obtain ⟨y, rfl, ry⟩ := rv.one
        have ry : y = .int j := ry
        subst ry
        exact ⟨j, rfl, (okI_le hj).1, (okI_le hj).2, g H1 ρ _ (.refl S.rs) it_rng⟩
      · exact g.elim
    · exact g.elim
theorem xi_rng2 {a b : Expr} {dl : DL} {p pos : Pos} (J2 : XJ X J) (hg : Gl X "range") (hm : X.mg "range" = none) (ha : PA X [a, b] (rdL J dl)) (hs : starEach [a, b] X.env = [(false, eval a X.env), (false, eval b X.env)] := by rfl) (hs2 : starEach [b] X.env = [(false, eval b X.env)] := by rfl) :
    PI X tg (.Call (.Name "range" p) [a, b] [] pos) (rdI J (dRng fRng2 dl)) :=
  PI.imp (pi_range2 hg hm ha hs hs2) fun σ H R h => rd_bind J2.st h fun ρ th env st v x H1 S rv g => by
    unfold fRng2 at g
    split at g
    · split at g
      · rename_i i j hj
        rw [Bool.and_eq_true] at hj
        obtain ⟨y, z, rfl, ry, rz⟩ := rv.two
        have ry : y = .int i := ry
        have rz : z = .int j := rz
        subst ry rz
        exact ⟨i, j, rfl, ⟨(okI_le hj.1).1, (okI_le hj.1).2, (okI_le hj.2).1, (okI_le hj.2).2⟩, g H1 ρ _ (.refl S.rs) it_rng⟩
      · exact g.elim
    · exact g.elim
theorem xi_rng3 {a b c : Expr} {dl : DL} {p pos : Pos} (J2 : XJ X J) (hg : Gl X "range") (hm : X.mg "range" = none) (ha : PA X [a, b, c] (rdL J dl)) (hs : starEach [a, b, c] X.env = (false, eval a X.env) :: starEach [b, c] X.env := by rfl) (hpl : (backTo pos (starEach [b, c] X.env)).any (·.1) = false := by rfl) :
    PI X tg (.Call (.Name "range" p) [a, b, c] [] pos) (rdI J (dRng fRng3 dl)) :=
  PI.imp (pi_range3 hg hm ha hs hpl) fun σ H R h => rd_bind J2.st h fun ρ th env st v x H1 S rv g => by
    unfold fRng3 at g
    split at g
    · split at g
      · rename_i i j k hj
        unfold okC at hj
        rw [Bool.and_eq_true, Bool.and_eq_true, Bool.and_eq_true] at hj
        obtain ⟨⟨⟨h1, h2⟩, h3⟩, h4⟩ := hj
        obtain ⟨y, z, u, rfl, ry, rz, ru⟩ := rv.three
        have ry : y = .int i := ry
        have rz : z = .int j := rz
        have ru : u = .int k := ru
        subst ry rz ru
        exact ⟨i, j, k, _, rfl, ⟨bne_iff_ne.mp h1, of_decide_eq_true h2, h3, eq_of_beq h4⟩, g H1 ρ _ (.refl S.rs) it_rngC⟩
      · exact g.elim
    · exact g.elim
end
/-! ### enumerate of a tuple, of a text -/
/-- the i-th item with its number, in a new tuple -/
def Ien (J0 : It) : It := ⟨J0.go, fun i H v H' => ∃ T x, v = .ref T ∧ H T = none ∧ H' = upd H T (.tup [.int i, x]) ∧ J0.yld i H x H, J0.stop⟩
theorem turn_enumD {P : Program} {w : World} {K : PySem.W.Frag} {elts : List Expr} {kk : Nat} {tpos : Pos} {e it : Addr} {tnI : Nat → Heap → Prop} {J0 : It} (hne : e ≠ it)
    (cell : ∀ i h, tnI i h → ∃ o, h.get? it = some o ∧ ∀ v, o.data ≠ .cell v) (keep : ∀ i h h', tnI i h → (∀ o, h.get? it = some o → h'.get? it = some o) → tnI i h')
    (dr : ∀ (X : Cx), X.prog = P → X.w = w → X.K = K → ∀ (pins : List (Addr × Obj)) (σ : L2.St) (H : Hp) (s : Shared), Inv X pins σ H s → ∀ i, tnI i s.heap → (∃ c old, IsEnum s.heap e it c old) → J0.go i H ∨ J0.stop i H →
      ∃ (fp : List Addr) (n : Nat) (Pv : Nat → Value → Prop) (St : Nat → Heap → Prop), it ∈ fp ∧ e ∉ fp ∧ (∀ A : Around, A.handled = none → Draws P w A it fp n Pv St) ∧ St i s.heap ∧ (∀ h, St (i + 1) h → tnI (i + 1) h) ∧
        (J0.go i H → i < n ∧ ∀ y, Pv i y → ∃ x, RelV x y ∧ J0.yld i H x H) ∧ (J0.stop i H → i = n)) :
    Turn P w K (.Tuple elts kk tpos) (Ien J0) [e, it] e (fun i h => (∃ old, IsEnum h e it (i : Nat) old) ∧ tnI i h) where
  mem := List.mem_cons_self
  obj := fun i h st b hb => by
    obtain ⟨⟨old, he⟩, ht⟩ := st
    rcases List.mem_cons.mp hb with z | z
    · rw [z]
      exact ⟨_, he, fun v q => nomatch q⟩
    · rw [List.mem_singleton.mp z]
      exact cell i h ht
  keep := fun i h h' st k => ⟨let ⟨old, he⟩ := st.1; ⟨old, k e List.mem_cons_self _ he⟩, keep i h h' st.2 fun o q => k it (List.mem_cons_of_mem _ List.mem_cons_self) o q⟩
  item := by
    intro X hP hw hK hc i pins s σ H E I hf st hg
    obtain ⟨⟨old, he⟩, ht⟩ := st
    obtain ⟨fp, n, Pv, St, m1, m2, D, hst, back, hgo, _⟩ := dr X hP hw hK pins σ H s I i ht ⟨_, old, he⟩ (.inl hg)
    obtain ⟨hin, hy⟩ := hgo hg
    subst hP hw
    have e0 : (0 : Int) + (i : Nat) = (i : Nat) := Int.zero_add _
    have el : e < s.heap.objs.size := Heap.lt_size he
    obtain ⟨oi, hoi, _⟩ := cell i s.heap ht
    refine (GoesN.enumFrom (elts := elts) (x1 := kk) (pos := tpos) 0 (D X.A.in1 (I.ok.hd hc)) e hne m2 m1).goes i s (fun v s2 => ∃ x H', Inv X pins σ H' s2 ∧ RelV x v ∧ (Ien J0).yld i H x H' ∧ ((∃ old, IsEnum s2.heap e it ((i + 1 : Nat) : Int) old) ∧ tnI (i + 1) s2.heap) ∧ ∀ b ∈ [e, it], H' b = none) E hin ⟨⟨old, by rw [e0]; exact he⟩, hst⟩ fun v h' tk hY st' hk _ => ?_
    obtain ⟨T, t, y, rfl, hT, hPy, hI⟩ := hY
    obtain ⟨x, rx, yx⟩ := hy y hPy
    obtain ⟨ho, hx1, hx2, hx3⟩ := hI
    have new : ObjOk X.prog X.w (upd H T (.tup [.int (i : Nat), x])) h' T (.tup [.int (i : Nat), x]) :=
      ⟨by show 2 ≤ sizeLine; decide, [.int (0 + ((i : Nat) : Int)) t, y], .cons ⟨t, by rw [e0]⟩ (.cons rx .nil), ⟨ho, hx1, hx2, hx3⟩⟩
    have I1 : Inv X pins σ (upd H T (.tup [.int (i : Nat), x])) { s with heap := h', toks := tk } := I.turnedNew (ch := [e, it]) (fun b o hb q => hk b o hb q) hf hT new
    refine ⟨.ref T, _, I1, rfl, ⟨T, x, rfl, I.hok.fresh hT, rfl, yx⟩, ⟨?_, back _ st'.2⟩, fun b hb => ?_⟩
    · obtain ⟨old', he'⟩ := st'.1
      rw [Int.zero_add] at he'
      exact ⟨old', he'⟩
    · have hlt : b < s.heap.objs.size := by
        rcases List.mem_cons.mp hb with z | z
        · rw [z]
          exact el
        · rw [List.mem_singleton.mp z]
          exact Heap.lt_size hoi
      rw [upd_ne (Nat.ne_of_lt (Nat.lt_of_lt_of_le hlt hT))]
      exact (hf b hb).1
  done := by
    intro X hP hw hK hc i pins s σ H E I hf st hg
    obtain ⟨⟨old, he⟩, ht⟩ := st
    obtain ⟨fp, n, Pv, St, m1, m2, D, hst, back, _, hstop⟩ := dr X hP hw hK pins σ H s I i ht ⟨_, old, he⟩ (.inr hg)
    have hn := hstop hg
    subst hP hw hn
    have e0 : (0 : Int) + (i : Nat) = (i : Nat) := Int.zero_add _
    exact (GoesN.enumFrom (elts := elts) (x1 := kk) (pos := tpos) 0 (D X.A.in1 (I.ok.hd hc)) e hne m2 m1).stops s (fun s1 => Inv X pins σ H s1) E ⟨⟨old, by rw [e0]; exact he⟩, hst⟩ fun h' tk hk _ => I.turnedL (ch := [e, it]) (fun b o hb q => hk b o hb q) hf
  self := fun A i s Q E st h => by
    obtain ⟨⟨old, he⟩, _⟩ := st
    exact wpAny_pyIter_enum he h
end Mi
end
section
set_option maxRecDepth 100000
set_option maxHeartbeats 4000000
namespace Mi
open PySem PySem.Spec PyProof.Rows L2
open Sem (wp)
theorem meets_enumB {v : Value} {ob : Obj} {Hv : Heap → Prop} (B : Begins v ob Hv) :
    Meets (Builtin.«enumerate.__new__» ⟨[.type "enumerate", v], []⟩) (fun _ R s => Hv s.heap ∧
      R (.ok (.ret (.ref (s.heap.push ob).objs.size))) { s with heap := (s.heap.push ob).push { cls := .type "enumerate", data := .fields #[.none, .bool false, .ref s.heap.objs.size, rawInt 0, .none, .none] } }) :=
  .of_wp fun prog w A R s hh => by
    obtain ⟨h0, gens, drawn, toks, os⟩ := s
    obtain ⟨hv, hh⟩ := hh
    have sub0 := sub_enumerate
    have it0 : ∀ {A' : Around} {E : Value → Shared → Prop} {Q : Value → Shared → Prop}, Q (.ref h0.objs.size) ⟨h0.push ob, gens, drawn, toks, os⟩ → wpAny (model prog w) A' (pyIter v) Q E ⟨h0, gens, drawn, toks, os⟩ := fun q =>
      B.iter prog w _ _ ⟨h0, gens, drawn, toks, os⟩ _ hv q
    wp_walk using it0
    refine wpAny_stack_any fun stk => wpAny_pure ?_
    split
    · rename_i cc _ _ _ _ _
      cases (cc == Value.type "enumerate")
      · wp_walk using it0
        exact ⟨_, rfl, hh⟩
      · wp_walk using it0
        exact ⟨_, rfl, hh⟩
    · wp_walk using it0
      exact ⟨_, rfl, hh⟩
section
variable {prog : Program} {w : World} {A : Around} {E : Value → Shared → Prop} {s : Shared}
theorem enumB1 {v : Value} {ob : Obj} {Hv : Heap → Prop} {Q : Value → Shared → Prop} (B : Begins v ob Hv) (hv : Hv s.heap)
    (h : ∀ h', IsEnum h' (s.heap.objs.size + 1) s.heap.objs.size 0 .none → h'.get? s.heap.objs.size = some ob → (∀ b o, s.heap.get? b = some o → h'.get? b = some o) → Q (.ref (s.heap.objs.size + 1)) { s with heap := h' }) :
    wpAny (model prog w) A (call (.type "enumerate") [v]) Q E s := by
  refine callType_new F.called_enumerate (by decide) (F.typeCall_enumerate_1 _) (F.newCall_enumerate_1 _) (fun x => F.args_object_init_2 x _) F.entry_enumerate_new (meets_enumB B) ⟨hv, ?_⟩
  have z1 : (s.heap.push ob).objs.size = s.heap.objs.size + 1 := Heap.size_push ..
  have z2 := Heap.get?_push_size (s.heap.push ob) (o := { cls := .type "enumerate", data := .fields #[.none, .bool false, .ref s.heap.objs.size, rawInt 0, .none, .none] }) rfl
  show _ ∧ _
  rw [z1] at z2 ⊢
  exact ⟨⟨_, z2, rfl⟩, h _ z2 (Heap.get?_push_of_some _ (Heap.get?_push_size _ B.free)) fun b o q => Heap.get?_push_of_some _ (Heap.get?_push_of_some _ q)⟩
end
/-- what is drawn of a tuple; its end is its length -/
def Itt1 (K : PySem.W.Frag) (a : Addr) : It := { Itt K a with stop := fun i H => ∃ xs, SqT K H a xs ∧ xs.length = i }
def Its1 (x : Str) : It := { Its x with stop := fun i _ => x.cps.size = i }
section
variable {X : Cx} {J : Jx} {e : Expr} {de : DE} {elts : List Expr} {kk : Nat} {p pos tpos : Pos} {ta : TA}
def iEnT (K : PySem.W.Frag) (ta : TA) : TI := fun σ H R => ta σ H fun vs H1 => ∃ (a : Addr) (xs : List V), vs = [.ref a] ∧ SqT K H1 a xs ∧ R (Ien (Itt1 K a)) H1
theorem pi_enT (hg : Gl X "enumerate") (hm : X.mg "enumerate" = none) (ha : PA X [e] ta) (hs : starEach [e] X.env = [(false, eval e X.env)] := by rfl) : PI X (.Tuple elts kk tpos) (.Call (.Name "enumerate" p) [e] [] pos) (iEnT X.K ta) := by
  refine ⟨fun pins s σ H R I h => Call_ (ld_blt I hg hm boot_enumerate (PyProof.Rows.callWith_type1 (thn (ha.run pos pins s σ H _ I h) fun us s1 ⟨vs, H1, I1, r1, q1⟩ => ?_) hs rfl))⟩
  obtain ⟨a, xs, ex, hq, q⟩ := q1
  subst ex
  obtain ⟨u, rfl, ru⟩ := r1.one
  cases ru
  obtain ⟨its, rv, tp, hz⟩ := I1.tuple hq
  refine enumB1 (begins_tuple a its.toArray) (show s1.heap.IsTuple a its.toArray from tp) fun h' he hit hk => wpAny_pyIter_enum he ?_
  have I2 : Inv X pins σ H1 { s1 with heap := h' } := I1.kept (t' := s1.toks) hk
  have fr : ∀ b ∈ [s1.heap.objs.size + 1, s1.heap.objs.size], FpOk X pins H1 b := fun b hb => by
    have hle : s1.heap.objs.size ≤ b := by
      rcases List.mem_cons.mp hb with z | z
      · omega
      · have := List.mem_singleton.mp z
        omega
    exact I1.fpOk hle (I1.hok.fresh hle)
  refine ⟨s1.heap.objs.size + 1, _, _, Ien (Itt1 X.K a), H1, rfl, I2, turn_enumD (e := s1.heap.objs.size + 1) (it := s1.heap.objs.size) (tnI := fun i h => h.IsTupleIter s1.heap.objs.size a i) (Nat.succ_ne_self _) (fun i h ⟨o, e1, _, e2⟩ => ⟨o, e1, fun v z => by rw [e2] at z; cases z⟩)
    (fun i h h2 ⟨o, e1, e2⟩ k => ⟨o, k o e1, e2⟩) ?_, ⟨⟨.none, he⟩, ⟨_, hit, rfl, rfl⟩⟩, fr, q⟩
  intro X' hP hw hK pins' σ' H' s' I' i ht ⟨c, old, he'⟩ hgs
  have hq' : ∃ ys, SqT X.K H' a ys := by
    rcases hgs with ⟨ys, _, hy, _⟩ | ⟨ys, hy, _⟩
    · exact ⟨ys, hy⟩
    · exact ⟨ys, hy⟩
  obtain ⟨ys, hy⟩ := hq'
  rw [← hK] at hy
  obtain ⟨its', rv', tp', _⟩ := I'.tuple hy
  have tp2 : s'.heap.IsTuple a its'.toArray := tp'
  have nea : s1.heap.objs.size + 1 ≠ a := fun z => by
    obtain ⟨o, e1, e2, _⟩ := tp2
    rw [← z, he'] at e1
    cases e1
    exact absurd (Value.type.inj e2) (by decide)
  have nia : a ≠ s1.heap.objs.size := fun z => by
    obtain ⟨o, e1, e2, _⟩ := tp2
    obtain ⟨o2, e3, e4, _⟩ := ht
    rw [z, e3] at e1
    cases e1
    rw [e4] at e2
    exact absurd (Value.type.inj e2) (by decide)
  refine ⟨[s1.heap.objs.size, a], its'.toArray.size, _, _, List.mem_cons_self, fun hm => ?_, fun A hA => Draws.tuple hA _ _ nia its'.toArray, ⟨ht, tp2⟩, fun h z => z.1, fun hgo => ?_, fun hst => ?_⟩
  · rcases List.mem_cons.mp hm with z | z
    · exact Nat.succ_ne_self _ z
    · exact nea (List.mem_singleton.mp z)
  · obtain ⟨zs, x, hz1, hx⟩ := hgo
    rw [← hK] at hz1
    have ezs := I'.tuple_inj hz1 hy
    subst ezs
    obtain ⟨u, hu, ru⟩ := rv'.get hx
    refine ⟨by rw [List.size_toArray]; exact (List.getElem?_eq_some_iff.mp hu).1, fun y hy' => ⟨x, ?_, rfl, fun ws hw' => ?_⟩⟩
    · have : its'.toArray[i]? = some y := hy'
      rw [List.getElem?_toArray, hu] at this
      cases this
      exact ru
    · rw [← hK] at hw'
      rw [I'.tuple_inj hw' hy]
      exact hx
  · obtain ⟨zs, hz1, hx⟩ := hst
    rw [← hK] at hz1
    rw [List.size_toArray, ← rv'.length, ← hx, I'.tuple_inj hz1 hy]
def iEnS (ta : TA) : TI := fun σ H R => ta σ H fun vs H1 => ∃ x, vs = [.str x] ∧ R (Ien (Its1 x)) H1
theorem pi_enS (hg : Gl X "enumerate") (hm : X.mg "enumerate" = none) (ha : PA X [e] ta) (hs : starEach [e] X.env = [(false, eval e X.env)] := by rfl) : PI X (.Tuple elts kk tpos) (.Call (.Name "enumerate" p) [e] [] pos) (iEnS ta) := by
  refine ⟨fun pins s σ H R I h => Call_ (ld_blt I hg hm boot_enumerate (PyProof.Rows.callWith_type1 (thn (ha.run pos pins s σ H _ I h) fun us s1 ⟨vs, H1, I1, r1, q1⟩ => ?_) hs rfl))⟩
  obtain ⟨x, ex, q⟩ := q1
  subst ex
  obtain ⟨u, rfl, ru⟩ := r1.one
  obtain ⟨t, rfl⟩ := ru
  refine enumB1 (begins_text x t) trivial fun h' he hit hk => wpAny_pyIter_enum he ?_
  have I2 : Inv X pins σ H1 { s1 with heap := h' } := I1.kept (t' := s1.toks) hk
  have fr : ∀ b ∈ [s1.heap.objs.size + 1, s1.heap.objs.size], FpOk X pins H1 b := fun b hb => by
    have hle : s1.heap.objs.size ≤ b := by
      rcases List.mem_cons.mp hb with z | z
      · omega
      · have := List.mem_singleton.mp z
        omega
    exact I1.fpOk hle (I1.hok.fresh hle)
  refine ⟨s1.heap.objs.size + 1, _, _, Ien (Its1 x), H1, rfl, I2, turn_enumD (e := s1.heap.objs.size + 1) (it := s1.heap.objs.size) (tnI := fun i h => h.IsStrIter s1.heap.objs.size (strIterType x) x t i) (Nat.succ_ne_self _) (fun i h ⟨o, e1, _, e2⟩ => ⟨o, e1, fun v z => by rw [e2] at z; cases z⟩)
    (fun i h h2 ⟨o, e1, e2⟩ k => ⟨o, k o e1, e2⟩) ?_, ⟨⟨.none, he⟩, ⟨_, hit, rfl, rfl⟩⟩, fr, q⟩
  intro X' hP hw hK pins' σ' H' s' I' i ht _ hgs
  refine ⟨[s1.heap.objs.size], x.cps.size, _, _, List.mem_cons_self, fun hm => Nat.succ_ne_self _ (List.mem_singleton.mp hm), fun A hA => Draws.text hA _ x t, ht, fun h z => z, fun hgo => ?_, fun hst => ?_⟩
  · refine ⟨hgo, fun y ⟨c, u, hc, hy⟩ => ⟨.str ⟨#[c]⟩, ⟨u, hy⟩, rfl, c, hc, rfl⟩⟩
  · have : x.cps.size = i := hst
    exact this.symm
end
/-! ### the readings -/
def enV : Int → List PV → List PV
  | _, [] => []
  | i, x :: xs => .tup [.int i, x] :: enV (i + 1) xs
theorem enV_get : ∀ (xs : List PV) (j : Int) (i : Nat), (enV j xs)[i]? = match xs[i]? with
    | some x => some (PV.tup [.int (j + (i : Nat)), x])
    | none => none
  | [], j, i => by simp [enV]
  | x :: xs, j, 0 => by simp [enV]
  | x :: xs, j, i + 1 => by
    have := enV_get xs (j + 1) i
    simp only [enV, List.getElem?_cons_succ]
    rw [this]
    have e : j + 1 + ((i : Nat) : Int) = j + ((i + 1 : Nat) : Int) := by push_cast; omega
    rw [e]
theorem enV_len : ∀ (xs : List PV) (j : Int), (enV j xs).length = xs.length
  | [], _ => rfl
  | x :: xs, j => by rw [enV, List.length_cons, List.length_cons, enV_len xs]
def enG (k : Nat) : Nat → Sto → Option (Option PV) := fun i st => match lstAt st k with
  | some xs => match xs[i]? with
    | some x => some (some (.tup [.int (i : Nat), x]))
    | none => some none
  | none => none
def fEn (vs : List PV) (st : Sto) : Res ItD := match vs with
  | [.ref k] => match lstAt st k with
    | some xs => .ok (.dyn (xs.length + 1) (enG k)) st
    | none => .bad
  | [.tup xs] => .ok (.vals (enV 0 xs)) st
  | [.str s] => .ok (.vals (enV 0 (s.map fun c => .str [c]))) st
  | _ => .bad
section
variable {W : Wd} {H0 : Hp} {ρ0 : Nat → Addr} {n0 : Nat}
theorem rv_pair {H : Hp} {ρ : Nat → Addr} {n : Nat} {T : Addr} {i : Int} {p : PV} {x : V} (hT : H T = none) (h : RV W H ρ n p x) : RV W (upd H T (.tup [.int i, x])) ρ n (.tup [.int i, p]) (.ref T) :=
  rv_newT (xs := [.int i, p]) (vs := [.int i, x]) hT ⟨.int i, [x], rfl, rfl, x, [], rfl, h, rfl⟩
theorem it_enL {k m : Nat} (hk : k < n0) : ItOK W H0 ρ0 n0 (.dyn m (enG k)) (Ite W.K (ρ0 k)) := fun i H ρ st s => by
  unfold enG
  cases e : lstAt st k with
  | none => trivial
  | some xs =>
    obtain ⟨vs, q, hv⟩ := s.rs.seq e
    rw [s.agr k hk] at q
    dsimp only
    cases ex : xs[i]? with
    | none => exact ⟨vs, q, by rw [← hv.length]; exact List.getElem?_eq_none_iff.mp ex⟩
    | some p =>
      obtain ⟨v, e1, rv⟩ := hv.get ex
      refine ⟨⟨vs, v, q, e1⟩, fun x H' ⟨T, y, e2, hT, e3, e4⟩ => ?_⟩
      have e5 := e4 vs q
      rw [e1] at e5
      cases e5
      subst e2 e3
      exact ⟨.newT s.rs hT, rv_pair hT rv⟩
theorem it_en {ps : List PV} {J0 : It} (h : ItOK W H0 ρ0 n0 (.vals ps) J0) (hq : ∀ i H x H', J0.yld i H x H' → H' = H) : ItOK W H0 ρ0 n0 (.vals (enV 0 ps)) (Ien J0) := fun i H ρ st s => by
  obtain ⟨h1, h2⟩ := h i H ρ st s
  refine ⟨fun p e => ?_, fun e => h2 (by rw [enV_len] at e; exact e)⟩
  rw [enV_get] at e
  cases ex : ps[i]? with
  | none =>
    rw [ex] at e
    cases e
  | some p' =>
    rw [ex] at e
    cases e
    obtain ⟨h3, h4⟩ := h1 p' ex
    refine ⟨h3, fun x H' ⟨T, y, e2, hT, e3, e4⟩ => ?_⟩
    obtain ⟨_, rv⟩ := h4 y H e4
    subst e2 e3
    refine ⟨.newT s.rs hT, ?_⟩
    rw [Int.zero_add]
    exact rv_pair hT rv
theorem it_tup1 {a : Addr} {ps : List PV} {vs : List V} (hs : SqT W.K H0 a vs) (hv : RVs W H0 ρ0 n0 ps vs) : ItOK W H0 ρ0 n0 (.vals ps) (Itt1 W.K a) := fun i H ρ st s =>
  ⟨(it_tup hs hv i H ρ st s).1, fun e => ⟨vs, s.ext.sqT hs, by rw [← hv.length]; exact e.symm⟩⟩
theorem it_str1 {xs : List Nat} : ItOK W H0 ρ0 n0 (.vals (xs.map fun c => .str [c])) (Its1 ⟨xs.toArray⟩) := fun i H ρ st s =>
  ⟨(it_str i H ρ st s).1, fun e => by
    show xs.toArray.size = i
    rw [e, List.length_map, List.size_toArray]⟩
end
section
variable {X : Cx} {J : Jx} {e : Expr} {dl : DL} {elts : List Expr} {kk : Nat} {p pos tpos : Pos}
theorem xi_enum (J2 : XJ X J) (hg : Gl X "enumerate") (hm : X.mg "enumerate" = none) (ha : PA X [e] (rdL J dl)) (hs : starEach [e] X.env = [(false, eval e X.env)] := by rfl) : PI X (.Tuple elts kk tpos) (.Call (.Name "enumerate" p) [e] [] pos) (rdI J (dRng fEn dl)) := PI.byCases fun σ H R h => by
  obtain ⟨ρ, th, env, st, S, g⟩ := h
  unfold dRng at g
  cases r : dl th env st with
  | bad =>
    rw [r] at g
    exact g.elim
  | exc x st' =>
    refine ⟨_, pi_enum hg hm ha hs, ρ, th, env, st, S, ?_⟩
    rw [r] at g ⊢
    exact g
  | ok v st' =>
    rw [r] at g
    replace g : gR J.W (fun H ρ n p x => ItOK J.W H ρ n p x) (fun c dd H' => J.Wx c dd σ H') (fEn v st') H ρ st.length R := g
    unfold fEn at g
    split at g
    · split at g
      · rename_i k xs ex
        refine ⟨_, pi_enum hg hm ha hs, ρ, th, env, st, S, ?_⟩
        rw [r]
        intro H' ρ' x s rv
        obtain ⟨y, rfl, hk, rfl⟩ := rv.one
        obtain ⟨vs, q, _⟩ := s.rs.seq ex
        exact ⟨_, vs, rfl, by rw [← J2.K]; exact q, by rw [← J2.K]; exact g H' ρ' _ s (it_enL hk)⟩
      · exact g.elim
    · refine ⟨_, pi_enT hg hm ha hs, ρ, th, env, st, S, ?_⟩
      rw [r]
      intro H' ρ' x s rv
      obtain ⟨y, rfl, a, vs, rfl, q, hv⟩ := rv.one
      exact ⟨_, vs, rfl, by rw [← J2.K]; exact q, by rw [← J2.K]; exact g H' ρ' _ s (it_en (it_tup1 q hv) fun i H x H' h => h.1)⟩
    · refine ⟨_, pi_enS hg hm ha hs, ρ, th, env, st, S, ?_⟩
      rw [r]
      intro H' ρ' x s rv
      obtain ⟨y, rfl, ry⟩ := rv.one
      exact ⟨_, by rw [ry], g H' ρ' _ s (it_en it_str1 fun i H x H' h => h.1)⟩
    · exact g.elim
end
end Mi
end
section
set_option maxRecDepth 100000
set_option maxHeartbeats 4000000
namespace Mi
open PySem PySem.Spec PyProof.Rows L2
/-! ### defs -/
def env0 (n : Nat) (ps : List PV) : Env := ps.map some ++ List.replicate (n - ps.length) none
def RS.fin : RS → Res PV
  | .rt v st => .ok v st
  | .nx _ st => .ok .non st
  | .exc e _ st => .exc e st
  | _ => .bad
def noTh : Th := fun _ => .bad
/-- a def with n slots -/
def mkF (n : Nat) (d : DS) : Fn := fun ps st => (d noTh (env0 n ps) st).fin
/-- a def's promise -/
def spN (W : Wd) (m : Nat) (F : Fn) : Sp := fun vs H Q E => ∃ ρ ps st, ps.length = m ∧ RSt W H ρ st ∧ RVs W H ρ st.length ps vs ∧ gE W E (F ps st) H ρ st.length Q
/-- F may be taken for G -/
def Ref (F G : Fn) : Prop := ∀ (W : Wd) (E : XK) (H : Hp) (ρ : Nat → Addr) (st : Sto) (ps : List PV) (vs : List V) (Q : VK), RSt W H ρ st → RVs W H ρ st.length ps vs → gE W E (F ps st) H ρ st.length Q → gE W E (G ps st) H ρ st.length Q
theorem Ref.refl (F : Fn) : Ref F F := fun _ _ _ _ _ _ _ _ _ _ h => h
abbrev noTr : TR := fun _ _ _ _ => True
theorem noTr_stays (W : Wd) : TR.Stays W noTr := fun _ _ _ _ _ _ _ _ _ => trivial
theorem REnv.start {W : Wd} {H : Hp} {ρ : Nat → Addr} {n : Nat} {N : List Str} {ps : List PV} {vs : List V} (h : RVs W H ρ n ps vs) : REnv W H ρ n (env0 N.length ps) (L2.start N vs) := by
  have hl := h.length
  refine ⟨by unfold env0 L2.start; simp [hl], fun i p e => ?_⟩
  unfold env0 at e
  unfold L2.start
  by_cases hi : i < ps.length
  · rw [List.getElem?_append_left (by simpa using hi)] at e
    rw [List.getElem?_append_left (by simpa [← hl] using hi)]
    rw [List.getElem?_map] at e ⊢
    cases ex : ps[i]? with
    | none =>
      rw [ex] at e
      cases e
    | some q =>
      rw [ex] at e
      cases e
      obtain ⟨v, h1, h2⟩ := h.get ex
      exact ⟨v, by rw [h1]; rfl, h2⟩
  · rw [List.getElem?_append_right (by simpa using hi)] at e
    rw [List.getElem?_replicate] at e
    split at e <;> cases e
section
variable {P : Program} {w : World} {K : PySem.W.Frag} {mg : Str → Option Value} {base : Heap} {x qual : Str} {params : Arguments} {body : List Stmt} {scope : Scope} {f : Addr} {fd : FuncData}
/-- the context of a def's body -/
abbrev cxB (P : Program) (w : World) (K : PySem.W.Frag) (mg : Str → Option Value) (base : Heap) (N : List Str) (qual : Str) (scope : Scope) (f : Addr) (cdv : Value) (A : Around) (outer : List PySem.Env) (s : Shared) (H : Hp) (E : XK) : Cx := cxOf (L2.CX P w) P w K mg base N qual scope f cdv A outer s H E
abbrev jxB (W : Wd) (E : XK) : Jx := ⟨W, fun c d _ H => E c d H, noTr⟩
theorem cx_ok {W : Wd} {N ps : List Str} (S : FnScope N ps scope) (hK : W.K = K) (hc : (cxB P w K mg base N qual scope f cdv A outer s H E).calm = true) (hg : A.guards = some []) : XK2 (cxB P w K mg base N qual scope f cdv A outer s H E) (jxB W E) :=
  ⟨⟨hK, noTr_stays W, takes_of rfl rfl rfl rfl⟩, hc, S.nd, passes_of rfl, hg⟩
/-- a def's promise at states in which no repr is under way -/
structure FnG (P : Program) (w : World) (K : PySem.W.Frag) (mg : Str → Option Value) (base : Heap) (k : Nat) (f : Addr) (fd : FuncData) (ps : List Str) (sp : Sp) : Prop where
  len : ∀ vs H Q E, sp vs H Q E → vs.length = ps.length
  run : ∀ (A : Around) (outer : List PySem.Env) (s : Shared) (H : Hp) (args : Args) (us : List Value) (vs : List V) (Q : VK) (E : XK), Room k A → A.guards = some [] → Env0 P w K mg base A outer s H → BindsTo s fd args (ps.zip us) → Vals vs us → sp vs H Q E →
    codeAny (model P w) A (.call (.ref f) args) (CR (L2.CX P w) outer P w H s Q E) s
theorem FnG.mono {j k : Nat} {ps : List Str} {sp : Sp} (F : FnG P w K mg base j f fd ps sp) (h : j ≤ k) : FnG P w K mg base k f fd ps sp :=
  ⟨F.len, fun A outer s H args us vs Q E hr => F.run A outer s H args us vs Q E (hr.mono h)⟩
theorem fn_ok {W : Wd} {N ps : List Str} {k : Nat} {d : DS} {G : Fn} (hK : W.K = K) (F : FunD K x qual params body scope [] [] f fd) (S : FnScope N ps scope) (hR : Ref G (mkF N.length d))
    (hb : ∀ (cdv : Value) (A : Around) (outer : List PySem.Env) (s : Shared) (H : Hp) (E : XK), Room k (A.deeper (envOfC qual scope s.heap.objs.size f cdv)) → XK2 (cxB P w K mg base N qual scope f cdv A outer s H E) (jxB W E) → PSs (cxB P w K mg base N qual scope f cdv A outer s H E) body (rdS (jxB W E) d)) :
    FnG P w K mg base (k + 1) f fd ps (spN W ps.length G) := by
  obtain ⟨oc, od, dV, kV, doc, pm, an, cdv, ct, osl, rfl, lk, hcd, _, _⟩ := F.ex
  have len : ∀ vs H Q E, spN W ps.length G vs H Q E → vs.length = ps.length := fun vs H Q E ⟨ρ, qs, st, h1, _, h2, _⟩ => by rw [← h2.length, h1]
  refine ⟨len, fun A outer s H args us vs Q E hr hg e0 hbi hv h => LamX.run_ofS lk hcd S hr e0 hbi hv (len _ _ _ _ h) fun hr' => ⟨_, hb cdv A outer s H E hr' (cx_ok S hK rfl hg), ?_⟩⟩
  obtain ⟨ρ, qs, st, h1, h2, h3, g⟩ := h
  replace g := hR W E H ρ st qs vs Q h2 h3 g
  refine ⟨ρ, noTh, env0 N.length qs, st, ⟨h2, REnv.start h3, trivial⟩, ?_⟩
  unfold mkF at g
  cases r : d noTh (env0 N.length qs) st with
  | nx env st1 =>
    rw [r] at g
    exact fun H' ρ' σ' s' _ => g H' ρ' .non s' rfl
  | rt v st1 =>
    rw [r] at g
    exact g
  | bk env st1 =>
    rw [r] at g
    exact g.elim
  | ct env st1 =>
    rw [r] at g
    exact g.elim
  | exc e env st1 =>
    rw [r] at g
    exact fun H' ρ' σ' c dd s' _ rx => g H' ρ' c dd s' rx
  | bad =>
    rw [r] at g
    exact g.elim
end
/-- a def that may be called -/
structure Cal (P : Program) (w : World) (mg : Str → Option Value) (base : Heap) (k : Nat) (x : Str) (n : Nat) (W : Wd) (F : Fn) : Prop where
  ex : ∃ (f : Addr) (fd : FuncData) (ps : List Str), ps.length = n ∧ FnG P w W.K mg base k f fd ps (spN W n F) ∧ mg x = some (.ref f) ∧ PySem.W.keepIn W.K (.ref f) = true ∧ Binds W.K fd ps []
theorem Cal.mono {P : Program} {w : World} {mg : Str → Option Value} {base : Heap} {j k : Nat} {x : Str} {n : Nat} {W : Wd} {F : Fn} (C : Cal P w mg base j x n W F) (h : j ≤ k) : Cal P w mg base k x n W F := by
  obtain ⟨f, fd, ps, h1, h2, h3⟩ := C.ex
  exact ⟨f, fd, ps, h1, h2.mono h, h3⟩
/-- a call of a def with n parameters -/
def dCall (n : Nat) (F : Fn) (a : DL) : DE := fun th env st => (a th env st).bind fun xs st1 => if Nat.beq xs.length n = true then F xs st1 else .bad
section
variable {X : Cx} {J : Jx} {k n : Nat} {F : Fn} {x : Str} {p pos : Pos} {e : Expr} {es : List Expr} {dl : DL}
theorem run_G {f : Addr} {fd : FuncData} {ps : List Str} {sp : Sp} {E : L2.St → XK} {pins : List (Addr × Obj)} {σ : L2.St} {H : Hp} {s : Shared} {Q : VK} {us : List Value} {vs : List V} (F : FnG X.prog X.w X.K X.mg X.base k f fd ps sp) (hr : Room k X.A) (hgd : X.A.guards = some [])
    (hb : Binds X.K fd ps []) (hx : ∀ σ, PassesAt (L2.CX X.prog X.w) X σ (E σ)) (I : Inv X pins σ H s) (r : Vals vs us) (h : sp vs H Q (E σ)) : wpAny (model X.prog X.w) X.A (call (.ref f) us) (EP X pins σ Q) X.xe s := by
  have hl : us.length = ps.length := by rw [← r.length]; exact F.len _ _ _ _ h
  have hbi := hb s us I.kIn (by rw [List.append_nil]; exact hl)
  rw [List.append_nil] at hbi
  refine wpAny_call (codeAny_mono (F.run X.A X.stack s H ⟨us, []⟩ us vs Q (E σ) hr hgd I.env0 hbi r h) fun res s' hq => ?_)
  match res, hq with
  | .error e, hq => exact hx σ pins H s e s' I hq
  | .ok (.ret u), hq => exact I.after hq
def tCallG (sp : Sp) (E : L2.St → XK) (t : TA) : TE := fun σ H Q => t σ H fun vs H1 => sp vs H1 Q (E σ)
theorem pe_callG {f : Addr} {fd : FuncData} {ps : List Str} {sp : Sp} {E : L2.St → XK} {t : TA} (F : FnG X.prog X.w X.K X.mg X.base k f fd ps sp) (hr : Room k X.A) (hgd : X.A.guards = some []) (hg : Gl X x) (hm : X.mg x = some (.ref f)) (hk : PySem.W.keepIn X.K (.ref f) = true) (hb : Binds X.K fd ps [])
    (hx : ∀ σ, PassesAt (L2.CX X.prog X.w) X σ (E σ)) (ha : PA X (e :: es) t) (hdb : (x == ("__debug__" : Str)) = false) (he : starEach (e :: es) X.env = (false, eval e X.env) :: starEach es X.env) (hpl : (backTo pos (starEach es X.env)).any (·.1) = false) :
    PE X (.Call (.Name x p) (e :: es) [] pos) (tCallG sp E t) :=
  ⟨fun pins s σ H Q I h => wpAny_Call_Name_kw (ld_glob I hg hm (PySem.W.callWith_K (h₀ := X.base) I.ok.mod.kin hk (thn (ha.run pos pins s σ H _ I h) fun us s1 ⟨vs, H1, I1, r, q⟩ => ⟨I1.kIn, run_G F hr hgd hb hx I1 r q⟩) he hpl) hdb)⟩
theorem pe_callG0 {f : Addr} {fd : FuncData} {ps : List Str} {sp : Sp} {E : L2.St → XK} (F : FnG X.prog X.w X.K X.mg X.base k f fd ps sp) (hr : Room k X.A) (hgd : X.A.guards = some []) (hg : Gl X x) (hm : X.mg x = some (.ref f)) (hk : PySem.W.keepIn X.K (.ref f) = true) (hb : Binds X.K fd ps [])
    (hx : ∀ σ, PassesAt (L2.CX X.prog X.w) X σ (E σ)) (hdb : (x == ("__debug__" : Str)) = false) : PE X (.Call (.Name x p) [] [] pos) (fun σ H Q => sp [] H Q (E σ)) :=
  ⟨fun pins s σ H Q I h => wpAny_Call_Name_kw (ld_glob I hg hm (PySem.W.callWith_K0 I.kIn hk (run_G F hr hgd hb hx I .nil h)) hdb)⟩
theorem xe_call (J2 : XK2 X J) (C : Cal X.prog X.w X.mg X.base k x n J.W F) (hr : Room k X.A) (hg : Gl X x) (ha : PA X (e :: es) (rdL J dl)) (hdb : (x == ("__debug__" : Str)) = false := by decide) (he : starEach (e :: es) X.env = (false, eval e X.env) :: starEach es X.env := by rfl) (hpl : (backTo pos (starEach es X.env)).any (·.1) = false := by rfl) :
    PE X (.Call (.Name x p) (e :: es) [] pos) (rdE J (dCall n F dl)) := by
  obtain ⟨f, fd, ps, h1, h2, h3, h4, h5⟩ := C.ex
  rw [J2.K] at h2 h4 h5
  refine PE.imp (pe_callG h2 hr J2.gd hg h3 h4 h5 (passAt J2.tk) ha hdb he hpl) fun σ H Q h => rd_bind J2.st h fun ρ th env st v xs H1 S rv g => ?_
  split at g
  · rename_i hl
    exact ⟨ρ, v, st, Nat.eq_of_beq_eq_true hl, S.rs, rv, g⟩
  · exact g.elim
theorem xe_call0 (J2 : XK2 X J) (C : Cal X.prog X.w X.mg X.base k x 0 J.W F) (hr : Room k X.A) (hg : Gl X x) (hdb : (x == ("__debug__" : Str)) = false := by decide) : PE X (.Call (.Name x p) [] [] pos) (rdE J (dCall 0 F dNil)) := by
  obtain ⟨f, fd, ps, h1, h2, h3, h4, h5⟩ := C.ex
  rw [J2.K] at h2 h4 h5
  refine PE.imp (pe_callG0 h2 hr J2.gd hg h3 h4 h5 (passAt J2.tk) hdb) fun σ H Q h => ?_
  obtain ⟨ρ, th, env, st, S, g⟩ := h
  exact ⟨ρ, [], st, rfl, S.rs, rfl, g⟩
/-! ### names that hold defs -/
/-- a table of defs by number: parameters, what they do -/
abbrev FTab := Nat → Option (Nat × Fn)
def dCallV (T : FTab) (i : Nat) (a : DL) : DE := fun th env st => match env[i]? with
  | some (some (.fn j)) => match T j with
    | some (n, F) => dCall n F a th env st
    | none => .bad
  | _ => .bad
/-- the table's defs may be called -/
def TabOk (P : Program) (w : World) (mg : Str → Option Value) (base : Heap) (k : Nat) (W : Wd) (T : FTab) : Prop := ∀ j n F, T j = some (n, F) → ∃ (f : Addr) (fd : FuncData) (ps : List Str), W.fa j = some f ∧ ps.length = n ∧ FnG P w W.K mg base k f fd ps (spN W n F) ∧ PySem.W.keepIn W.K (.ref f) = true ∧ Binds W.K fd ps []
theorem PE.byCases {e : Expr} {w' : TE} (k : ∀ σ H R, w' σ H R → ∃ w : TE, PE X e w ∧ w σ H R) : PE X e w' := ⟨fun pins s σ H R I q => by
  obtain ⟨w, h, q⟩ := k σ H R q
  exact h.run pins s σ H R I q⟩
def tCallLS (i : Nat) (f : Addr) (sp : Sp) (E : L2.St → XK) (t : TA) : TE := fun σ H Q => σ[i]? = some (some (.ref f)) ∧ t σ H fun vs H1 => sp vs H1 Q (E σ)
theorem pe_callLS {i : Nat} {f : Addr} {fd : FuncData} {ps : List Str} {sp : Sp} {E : L2.St → XK} {t : TA} (F : FnG X.prog X.w X.K X.mg X.base k f fd ps sp) (hr : Room k X.A) (hgd : X.A.guards = some []) (hN : X.N[i]? = some x) (hv : Vis X.env.scope x) (hk : PySem.W.keepIn X.K (.ref f) = true) (hb : Binds X.K fd ps [])
    (hx : ∀ σ, PassesAt (L2.CX X.prog X.w) X σ (E σ)) (ha : PA X (e :: es) t) (hdb : (x == ("__debug__" : Str)) = false := by decide) (hcd : (x == ("__classdict__" : Str)) = false := by decide)
    (he : starEach (e :: es) X.env = (false, eval e X.env) :: starEach es X.env := by rfl) (hpl : (backTo pos (starEach es X.env)).any (·.1) = false := by rfl) : PE X (.Call (.Name x p) (e :: es) [] pos) (tCallLS i f sp E t) := by
  refine ⟨fun pins s σ H Q I ⟨hs, ht⟩ => wpAny_Call_Name_kw (thn ((pe_var (pos := p) hN hv hdb hcd).run pins s σ H (fun v H1 => v = .ref f ∧ H1 = H) I ⟨.ref f, hs, rfl, rfl⟩) fun u s1 ⟨v, H1, I1, r1, q1⟩ => ?_)⟩
  obtain ⟨e1, e2⟩ := q1
  subst e1 e2
  cases r1
  exact PySem.W.callWith_K (h₀ := X.base) I.ok.mod.kin hk (thn (ha.run pos pins s1 σ _ _ I1 ht) fun us s2 ⟨vs, H2, I2, r, q⟩ => ⟨I2.kIn, run_G F hr hgd hb hx I2 r q⟩) he hpl
theorem xe_callV {T : FTab} {i : Nat} (J2 : XK2 X J) (C : TabOk X.prog X.w X.mg X.base k J.W T) (hr : Room k X.A) (hN : X.N[i]? = some x) (hv : Vis X.env.scope x) (ha : PA X (e :: es) (rdL J dl)) (hdb : (x == ("__debug__" : Str)) = false := by decide) (hcd : (x == ("__classdict__" : Str)) = false := by decide)
    (he : starEach (e :: es) X.env = (false, eval e X.env) :: starEach es X.env := by rfl) (hpl : (backTo pos (starEach es X.env)).any (·.1) = false := by rfl) : PE X (.Call (.Name x p) (e :: es) [] pos) (rdE J (dCallV T i dl)) := PE.byCases fun σ H Q h => by
  obtain ⟨ρ, th, env, st, S, g⟩ := h
  unfold dCallV at g
  split at g
  · rename_i j ej
    split at g
    · rename_i m F et
      obtain ⟨f, fd, ps, h0, h1, h2, h4, h5⟩ := C j m F et
      rw [J2.K] at h2 h4 h5
      obtain ⟨v, hv1, a, hv2, hv3⟩ := S.env.get i _ ej
      rw [h0] at hv2
      cases hv2
      subst hv3
      refine ⟨_, pe_callLS h2 hr J2.gd hN hv h4 h5 (passAt J2.tk) ha hdb hcd he hpl, hv1, ?_⟩
      refine rd_bind (f := fun xs _ _ st1 => if Nat.beq xs.length m = true then F xs st1 else .bad) J2.st ⟨ρ, th, env, st, S, g⟩ fun ρ th env st v xs H1 S rv g => ?_
      split at g
      · rename_i hl
        exact ⟨ρ, v, st, Nat.eq_of_beq_eq_true hl, S.rs, rv, g⟩
      · exact g.elim
    · exact g.elim
  · exact g.elim
end
end Mi
end
section
set_option maxRecDepth 100000
set_option maxHeartbeats 4000000
namespace Mi
open PySem PySem.Spec PyProof.Rows L2 LamX
/-! ### the law's call: no repr is under way there -/
/-- what is tracked at the start: the script (unless it is of the frame K), the tables -/
def hp0 (K : PySem.W.Frag) (a : Addr) (ob : Obj) (xs : List V) (ts : List Addr) : Hp := fun b => if b ∈ ts then some (.tbl #[]) else if b = a ∧ K.lookup a = none then some (.frz ob (.lst xs)) else none
section
variable {K : PySem.W.Frag} {a b : Addr} {ob : Obj} {xs : List V} {ts : List Addr}
theorem hp0_tab (h : b ∈ ts) : hp0 K a ob xs ts b = some (.tbl #[]) := if_pos h
theorem hp0_own (h : a ∉ ts) (k : K.lookup a = none) : hp0 K a ob xs ts a = some (.frz ob (.lst xs)) := (if_neg h).trans (if_pos ⟨rfl, k⟩)
theorem hp0_out (h : b ∉ ts) (k : ¬ (b = a ∧ K.lookup a = none)) : hp0 K a ob xs ts b = none := (if_neg h).trans (if_neg k)
theorem hp0_cases {o : HO} (e : hp0 K a ob xs ts b = some o) : (b ∈ ts ∧ o = .tbl #[]) ∨ (b = a ∧ K.lookup a = none ∧ o = .frz ob (.lst xs)) := by
  unfold hp0 at e
  split at e
  · rename_i h
    cases e
    exact .inl ⟨h, rfl⟩
  · split at e
    · rename_i h
      cases e
      exact .inr ⟨h.1, h.2, rfl⟩
    · cases e
end
theorem law_callG {P : Program} {w : World} {K : PySem.W.Frag} {mg mb : Str → Option Value} {k : Nat} {fa a : Addr} {cs : List (Addr × Addr)} {fd : FuncData} {x : Str} {sp : Sp} {s : Shared} {us : List Value} {ns : List Int}
    (KX : K.In s.heap) (hns : s.heap.Ns mainGlobals mg) (hbn : s.heap.Ns builtinsNs mb) (hbb : ∀ x : Str, x ≠ "__name__" → mb x = bootBuiltins x) (hlim : s.heap.NoLimit) (hgens : s.gens = #[])
    (hT : ∀ p ∈ cs, s.heap.get? p.2 = some { cls := .none, data := .fields #[] }) (nT : ∀ p ∈ cs, K.lookup p.2 = none) (C : ∀ p ∈ cs, PySem.W.CodeHd s.heap p.1 p.2)
    (hbm : ∃ (bm : Addr) (ob : Obj), mg "__builtins__" = some (.ref bm) ∧ bm ≠ builtinsNs ∧ s.heap.get? bm = some ob ∧ ob.cls = .type "module" ∧ ob.dict = some builtinsNs ∧ ob.data = .plain)
    (ha : s.heap.get? a = some { cls := .type "list", data := .seq us.toArray }) (hi : IntsAre us ns) (hl : ns.length ≤ sizeLine) (hr : Room k callerA)
    (F : ∀ base : Heap, K.In base → base.Ns mainGlobals mg → (∀ p ∈ cs, TabB base mg p.1 p.2) → FnG P w K mg base k fa fd [x] sp) (hbind : ∀ (s : Shared) (u : Value), BindsTo s fd ⟨[u], []⟩ [(x, u)])
    (hsp : ∀ H : Hp, (∀ p ∈ cs, H p.2 = some (.tbl #[])) → FzL K H a (ns.map V.int) → sp [.ref a] H (fun v _ => v = .bl true) fun _ _ _ => False) :
    codeAny (model P w) callerA (.call (.ref fa) ⟨[.ref a], []⟩) (fun r s' => r = .ok (.ret (.bool true)) ∧ OldK s.heap s'.heap ∧ s'.os = s.os ∧ AllBare s'.gens) s := by
  have rv := vals_ints hi
  have ul := hi.length
  have tabO : ∀ b ∈ cs.map (·.2), s.heap.get? b = some { cls := .none, data := .fields #[] } ∧ K.lookup b = none := fun b hb => by
    obtain ⟨p, hp, rfl⟩ := List.mem_map.mp hb
    exact ⟨hT p hp, nT p hp⟩
  have aNo : a ∉ cs.map (·.2) := fun z => by
    have q := (tabO a z).1
    rw [ha] at q
    exact absurd (congrArg Obj.data (Option.some.inj q)) (fun z => nomatch z)
  obtain ⟨H, eH⟩ : ∃ H, H = hp0 K a { cls := .type "list", data := .seq us.toArray } (ns.map V.int) (cs.map (·.2)) := ⟨_, rfl⟩
  have Hcase : ∀ {b : Addr} {o : HO}, H b = some o → (b ∈ cs.map (·.2) ∧ o = .tbl #[]) ∨ (b = a ∧ K.lookup a = none ∧ o = .frz { cls := .type "list", data := .seq us.toArray } (.lst (ns.map V.int))) := fun {b o} e => hp0_cases (by rw [← eH]; exact e)
  have Htab : ∀ p ∈ cs, H p.2 = some (.tbl #[]) := fun p hp => by
    rw [eH]
    exact hp0_tab (List.mem_map.mpr ⟨p, hp, rfl⟩)
  have listOk : ObjOk P w H s.heap a (.frz { cls := .type "list", data := .seq us.toArray } (.lst (ns.map V.int))) := ⟨ha, by rw [List.length_map]; exact hl, us, _, rv, ha⟩
  have fz : FzL K H a (ns.map V.int) := by
    cases hk : K.lookup a with
    | none => exact .inl ⟨_, by rw [eH]; exact hp0_own aNo hk⟩
    | some o =>
      have e := KX a o hk
      rw [ha] at e
      cases e
      exact .inr ⟨_, us.toArray, _, hk, rfl, rfl, rfl, by rw [List.size_toArray, ul]; exact hl, by simpa using rv⟩
  have hok : HOk P w H s.heap := fun b o e => by
    rcases Hcase e with ⟨h, rfl⟩ | ⟨rfl, _, rfl⟩
    · exact (tabO b h).1
    · exact listOk
  -- what is neither a list nor a table isn't tracked
  have free : ∀ {b : Addr} {o : Obj}, s.heap.get? b = some o → (∀ vs n, o.data ≠ .seq vs n) → o.data ≠ .fields #[] → H b = none := fun {b o} e h1 h2 => by
    cases q : H b with
    | none => rfl
    | some u =>
      rcases Hcase q with ⟨h, _⟩ | ⟨rfl, _, _⟩
      · have := (tabO b h).1
        rw [e] at this
        cases this
        exact absurd rfl h2
      · rw [ha] at e
        cases e
        exact absurd rfl (h1 _ _)
  have ns0 : ∀ {b : Addr} {m : Str → Option Value}, s.heap.Ns b m → (hidT s.heap H).Ns b m := fun ⟨o, es, ep, e, d, r⟩ =>
    ⟨o, es, ep, hidT_get e (free e (fun vs n z => by rw [d] at z; cases z) fun z => by rw [d] at z; cases z), d, r⟩
  have K0 : K.In (hidT s.heap H) := fun b o e => hidT_get (KX b o e) (by
    cases q : H b with
    | none => rfl
    | some u =>
      rcases Hcase q with ⟨h, _⟩ | ⟨rfl, h, _⟩
      · rw [(tabO b h).2] at e
        cases e
      · rw [h] at e
        cases e)
  have M0 : L2.Mod K mg (hidT s.heap H) := ⟨K0, ns0 hns, ⟨mb, ns0 hbn, hbb⟩, let ⟨mc, h1, h2⟩ := hlim; ⟨mc, ns0 h1, h2⟩⟩
  have TB : ∀ p ∈ cs, TabB (hidT s.heap H) mg p.1 p.2 := fun p hp => by
    have tp := hT p hp
    constructor
    · obtain ⟨o, vs, file, tf, flags, tg, inF, text, tt, e1, r1, r2, r3, rest⟩ := C p hp
      refine ⟨o, vs, file, tf, flags, tg, inF, text, tt, hidT_get e1 (free e1 (fun vs n z => by rw [r2] at z; cases z) fun z => ?_), r1, r2, r3, rest⟩
      rw [r2] at z
      cases z
      simp at r3
    · obtain ⟨bm, ob, b1, b2, b3, b4, b5, b6⟩ := hbm
      have ng : bm ≠ mainGlobals := fun z => by
        obtain ⟨o, es, ep, e, d, _⟩ := hns
        rw [z, e] at b3
        cases b3
        rw [d] at b6
        cases b6
      have np : bm ≠ p.2 := fun z => by
        rw [z, tp] at b3
        cases b3
        cases b6
      exact ⟨bm, ob, b1, b2, ng, np, hidT_get b3 (free b3 (fun vs n z => by rw [b6] at z; cases z) fun z => by rw [b6] at z; cases z), b4, b5, b6⟩
    · intro z
      obtain ⟨o, es, ep, e, d, _⟩ := hns
      rw [z, tp] at e
      cases e
      cases d
  have e0 : Env0 P w K mg (hidT s.heap H) callerA [] s H := ⟨rfl, M0, fun b o e => of_hidT e, Nat.le_of_eq (hidT_size _ _), trivial, fun b hb => absurd hb List.not_mem_nil, hok, .of_eq hgens⟩
  refine codeAny_mono ((F _ K0 (ns0 hns) TB).run callerA [] s H ⟨[.ref a], []⟩ [.ref a] [.ref a] _ _ hr rfl e0 (hbind s (.ref a)) (.cons rfl .nil) (hsp H Htab fz)) fun r s' h => ?_
  match r, h with
  | .error e, h =>
    obtain ⟨_, _, _, _, _, _, _, _, _, _, _, _, z⟩ := h
    exact z.elim
  | .ok (.ret u), ⟨v, H', os, bare, un, hok', r', q⟩ =>
    have q : v = .bl true := q
    subst q
    have r' : u = Value.bool true := r'
    subst r'
    have stay : ∀ b o, b ∉ cs.map (·.2) → s.heap.get? b = some o → s'.heap.get? b = some o := fun b o nb e => by
      cases q : H b with
      | none => exact un.keep b o e q List.not_mem_nil List.not_mem_nil
      | some u =>
        rcases Hcase q with ⟨h, _⟩ | ⟨rfl, _, rfl⟩
        · exact absurd h nb
        · have e1 := (hok' b _ (un.frzs b _ _ q)).1
          rw [ha] at e
          cases e
          exact e1
    refine ⟨rfl, ⟨fun b o e => ?_, fun b o e => ?_⟩, os, bare⟩
    · by_cases hb : b ∈ cs.map (·.2)
      · obtain ⟨p, hp, rfl⟩ := List.mem_map.mp hb
        obtain ⟨more, z⟩ := un.tbls p.2 #[] (Htab p hp)
        have e' := hT p hp
        rw [e] at e'
        cases e'
        have z2 := hok' p.2 _ z
        exact .inr (.inl ⟨((C p hp).tab (hT p hp)).isCodeTable, rfl, #[], more, rfl, z2⟩)
      · exact .inl (stay b o hb e)
    · by_cases hb : b ∈ cs.map (·.2)
      · obtain ⟨p, hp, rfl⟩ := List.mem_map.mp hb
        obtain ⟨more, z⟩ := un.tbls p.2 #[] (Htab p hp)
        exact ⟨_, hok' p.2 _ z⟩
      · exact ⟨o, stay b o hb e⟩
/-- what is known of the law's promise at the head's heap -/
def LawG (l : PySem.W.OpenLaw) (w : World) (K : PySem.W.Frag) (k n : Nat) (x : Str) (mg : Str → Option Value) (fa : Addr) (h : Heap) : Prop :=
  ∃ (fd : FuncData) (cs : List (Addr × Addr)) (sp : Sp), (∀ p ∈ cs, h.get? p.2 = some { cls := .none, data := .fields #[] }) ∧ (∀ p ∈ cs, K.lookup p.2 = none) ∧ (∀ p ∈ cs, PySem.W.CodeHd h p.1 p.2) ∧ (∀ (s : Shared) (u : Value), BindsTo s fd ⟨[u], []⟩ [(x, u)]) ∧
    (∀ (H : Hp) (a : Addr) (ns : List Int), ns.length ≤ n → (∀ z ∈ ns, Builtin.Int.intBits z ≤ 1048576) → (∀ p ∈ cs, H p.2 = some (.tbl #[])) → FzL K H a (ns.map V.int) → sp [.ref a] H (fun v _ => v = .bl true) fun _ _ _ => False) ∧
    ∀ base : Heap, K.In base → base.Ns mainGlobals mg → (∀ p ∈ cs, TabB base mg p.1 p.2) → FnG l.prog w K mg base k fa fd [x] sp
theorem walk_G {l : PySem.W.OpenLaw} {n k : Nat} {q : Program} {loose : List Str} {XP : (Str → Option Value) → Heap → Prop} {YP : World → Heap → Prop} {d : DefRec} {x : Str} (hn : l.most = some n) (hn2 : n ≤ sizeLine) (hdf : d.params.defaults = []) (hr : Room k callerA)
    (F : ∀ (w : World) (mg : Str → Option Value) (fa : Addr) (h : Heap), YP w h → h.Ns mainGlobals mg → mg d.name = some (.ref fa) → ∃ K : PySem.W.Frag, K.In h ∧ LawG l w K k n x mg fa h) :
    PySem.W.WalkO q loose XP YP l.row.toRowW d [] (fun f vs => PySem.call f vs) :=
  Att.attach_callB hn hdf fun w s0 s1 mg mb fa o pm cd doc a vs ns G Y ho hd hcd hmg hobj hints hlen hbits hg => by
    obtain ⟨K, KX, fd, cs, sp, h1, h2, h3, h4, h5, h6⟩ := F w mg fa _ Y G.T.g hmg
    exact law_callG KX G.T.g G.T.b G.T.builtins G.T.nolimit hg h1 h2 h3 G.T.bmain hobj hints (Nat.le_trans hlen hn2) hr h6 h4 fun H a1 a2 => h5 H a ns hlen hbits a1 a2
end Mi
end
section
set_option maxRecDepth 100000
set_option maxHeartbeats 4000000
namespace Mi
open PySem PySem.Spec PyProof.Rows L2
abbrev toS (s : List Nat) : Str := ⟨s.toArray⟩
def ofS (r : Str) : List Nat := r.cps.toList
theorem toS_ofS (r : Str) : toS (ofS r) = r := rfl
section
variable {J : Jx}
/-! ### helpers -/
def intsOf : List PV → Option (List Int)
  | [] => some []
  | .int i :: r => match intsOf r with
    | some is => some (i :: is)
    | none => none
  | _ :: _ => none
def blsOf : List PV → Option (List Bool)
  | [] => some []
  | .bl i :: r => match blsOf r with
    | some is => some (i :: is)
    | none => none
  | _ :: _ => none
def strsOf : List PV → Option (List (List Nat))
  | [] => some []
  | .str i :: r => match strsOf r with
    | some is => some (i :: is)
    | none => none
  | _ :: _ => none
variable {W : Wd} {H : Hp} {ρ : Nat → Addr} {n : Nat}
theorem rvs_ints : ∀ {ps : List PV} {is : List Int} {vs : List V}, intsOf ps = some is → RVs W H ρ n ps vs → vs = is.map V.int
  | [], is, vs, e, h => by
    cases e
    exact h
  | p :: ps, is, vs, e, ⟨v, r, e2, h1, h2⟩ => by
    cases p <;> simp only [intsOf] at e <;> try (cases e; done)
    split at e
    · rename_i i _ js ejs
      cases e
      have h1 : v = .int i := h1
      rw [e2, h1, rvs_ints ejs h2] <;> rfl
    · cases e
theorem rvs_bls : ∀ {ps : List PV} {is : List Bool} {vs : List V}, blsOf ps = some is → RVs W H ρ n ps vs → vs = is.map V.bl
  | [], is, vs, e, h => by
    cases e
    exact h
  | p :: ps, is, vs, e, ⟨v, r, e2, h1, h2⟩ => by
    cases p <;> simp only [blsOf] at e <;> try (cases e; done)
    split at e
    · rename_i i _ js ejs
      cases e
      have h1 : v = .bl i := h1
      rw [e2, h1, rvs_bls ejs h2] <;> rfl
    · cases e
theorem rvs_strs : ∀ {ps : List PV} {is : List (List Nat)} {vs : List V}, strsOf ps = some is → RVs W H ρ n ps vs → vs = (is.map toS).map V.str
  | [], is, vs, e, h => by
    cases e
    exact h
  | p :: ps, is, vs, e, ⟨v, r, e2, h1, h2⟩ => by
    cases p <;> simp only [strsOf] at e <;> try (cases e; done)
    split at e
    · rename_i i _ js ejs
      cases e
      have h1 : v = .str (toS i) := h1
      rw [e2, h1, rvs_strs ejs h2] <;> rfl
    · cases e
theorem rvs_of_strs (is : List (List Nat)) : RVs W H ρ n (is.map PV.str) ((is.map toS).map V.str) := by
  induction is with
  | nil => exact rfl
  | cons i is ih => exact ⟨_, _, rfl, rfl, ih⟩
theorem rvs_signs (is : List Nat) : RVs W H ρ n (is.map fun c => PV.str [c]) (is.map fun c => V.str ⟨#[c]⟩) := by
  induction is with
  | nil => exact rfl
  | cons i is ih => exact ⟨_, _, rfl, rfl, ih⟩
theorem rvs_of_ints (is : List Int) : RVs W H ρ n (is.map PV.int) (is.map V.int) := by
  induction is with
  | nil => exact rfl
  | cons i is ih => exact ⟨_, _, rfl, rfl, ih⟩
/-- a sequence: a list of the store, or a tuple -/
def seqOf (st : Sto) : PV → Option (List PV)
  | .ref k => lstAt st k
  | .tup xs => some xs
  | _ => none
theorem seq_ok {st : Sto} {p : PV} {x : V} {ps : List PV} (r : RSt W H ρ st) (h : RV W H ρ st.length p x) (e : seqOf st p = some ps) : ∃ a vs, x = .ref a ∧ (SqL W.K H a vs ∨ SqT W.K H a vs) ∧ RVs W H ρ st.length ps vs := by
  cases p <;> simp only [seqOf] at e <;> try (cases e; done)
  · cases e
    obtain ⟨a, vs, rfl, q, hv⟩ := h
    exact ⟨a, vs, rfl, .inr q, hv⟩
  · obtain ⟨_, rfl⟩ := h
    obtain ⟨vs, q, hv⟩ := r.seq e
    exact ⟨_, vs, rfl, .inl q, hv⟩
/-! ### len, abs, max, min, int -/
def fLen (xs : List PV) (st : Sto) : Res PV := match xs with
  | [.str s] => if szOk s.length = true then .ok (.int s.length) st else .bad
  | [p] => match seqOf st p with
    | some ys => .ok (.int ys.length) st
    | none => .bad
  | _ => .bad
abbrev rLenA (K : PySem.W.Frag) : List V → Hp → VK → Prop := fun xs H Q => ∃ x n, xs = [x] ∧ LenV K x H n ∧ Q (.int n) H
theorem ok_len : CallOK J fLen (rLenA J.W.K) := by
  intro E H ρ st ps xs Q r h g
  unfold fLen at g
  split at g
  · rename_i s
    split at g
    · rename_i hz
      obtain ⟨x, rfl, hx⟩ := h.one
      have hx : x = .str (toS s) := hx
      subst hx
      exact ⟨_, s.length, rfl, ⟨by rw [str_len]; exact szOk_le hz, (str_len s).symm⟩, g H ρ _ (.refl r) rfl⟩
    · exact g.elim
  · split at g
    · rename_i p _ ys e
      obtain ⟨x, rfl, hx⟩ := h.one
      obtain ⟨a, vs, rfl, q, hv⟩ := seq_ok r hx e
      refine ⟨_, ys.length, rfl, ?_, g H ρ _ (.refl r) rfl⟩
      rcases q with q | q
      · exact .inl ⟨vs, q, hv.length⟩
      · exact .inr ⟨vs, q, hv.length⟩
    · exact g.elim
  · exact g.elim
def fInt1 (f : Int → Int) (xs : List PV) (st : Sto) : Res PV := match xs with
  | [.int i] => .ok (.int (f i)) st
  | _ => .bad
def fAbs := fInt1 fun i => if i < 0 then -i else i
theorem ok_int1 {f : Int → Int} : CallOK J (fInt1 f) (fun xs H Q => ∃ i, xs = [.int i] ∧ Q (.int (f i)) H) := by
  intro E H ρ st ps xs Q r h g
  unfold fInt1 at g
  split at g
  · rename_i i
    obtain ⟨x, rfl, hx⟩ := h.one
    have hx : x = .int i := hx
    subst hx
    exact ⟨i, rfl, g H ρ _ (.refl r) rfl⟩
  · exact g.elim
def fInt (xs : List PV) (st : Sto) : Res PV := match xs with
  | [.int i] => .ok (.int i) st
  | [.bl k] => .ok (.int (if k then 1 else 0)) st
  | _ => .bad
abbrev rIntA : List V → Hp → VK → Prop := fun xs H Q => (∃ i, xs = [.int i] ∧ Q (.int i) H) ∨ ∃ k, xs = [.bl k] ∧ Q (.int (if k then 1 else 0)) H
theorem ok_intA : CallOK J fInt rIntA := by
  intro E H ρ st ps xs Q r h g
  unfold fInt at g
  split at g
  · rename_i i
    obtain ⟨x, rfl, hx⟩ := h.one
    have hx : x = .int i := hx
    subst hx
    exact .inl ⟨i, rfl, g H ρ _ (.refl r) rfl⟩
  · rename_i i
    obtain ⟨x, rfl, hx⟩ := h.one
    have hx : x = .bl i := hx
    subst hx
    exact .inr ⟨i, rfl, g H ρ _ (.refl r) rfl⟩
  · exact g.elim
/-- the greatest, the least -/
def maxI : List Int → Option Int
  | [] => none
  | i :: r => match maxI r with
    | some m => some (if i < m then m else i)
    | none => some i
def minI : List Int → Option Int
  | [] => none
  | i :: r => match minI r with
    | some m => some (if m < i then m else i)
    | none => some i
theorem maxI_ok : ∀ {is : List Int} {m : Int}, maxI is = some m → m ∈ is ∧ ∀ y ∈ is, y ≤ m
  | [], _, e => by cases e
  | i :: r, m, e => by
    unfold maxI at e
    split at e
    · rename_i k ek
      obtain ⟨h1, h2⟩ := maxI_ok ek
      cases e
      split
      · rename_i h
        refine ⟨List.mem_cons_of_mem _ h1, fun y hy => ?_⟩
        rcases List.mem_cons.mp hy with rfl | hy
        · omega
        · exact h2 y hy
      · rename_i h
        refine ⟨List.mem_cons_self, fun y hy => ?_⟩
        rcases List.mem_cons.mp hy with rfl | hy
        · omega
        · have := h2 y hy
          omega
    · rename_i ek
      cases e
      cases r with
      | nil => exact ⟨List.mem_cons_self, fun y hy => by have := List.mem_singleton.mp hy; omega⟩
      | cons j r =>
        unfold maxI at ek
        split at ek <;> cases ek
theorem minI_ok : ∀ {is : List Int} {m : Int}, minI is = some m → m ∈ is ∧ ∀ y ∈ is, m ≤ y
  | [], _, e => by cases e
  | i :: r, m, e => by
    unfold minI at e
    split at e
    · rename_i k ek
      obtain ⟨h1, h2⟩ := minI_ok ek
      cases e
      split
      · rename_i h
        refine ⟨List.mem_cons_of_mem _ h1, fun y hy => ?_⟩
        rcases List.mem_cons.mp hy with rfl | hy
        · omega
        · exact h2 y hy
      · rename_i h
        refine ⟨List.mem_cons_self, fun y hy => ?_⟩
        rcases List.mem_cons.mp hy with rfl | hy
        · omega
        · have := h2 y hy
          omega
    · rename_i ek
      cases e
      cases r with
      | nil => exact ⟨List.mem_cons_self, fun y hy => by have := List.mem_singleton.mp hy; omega⟩
      | cons j r =>
        unfold minI at ek
        split at ek <;> cases ek
def fMax (xs : List PV) (st : Sto) : Res PV := match xs with
  | [.int i, .int j] => .ok (.int (if j > i then j else i)) st
  | [.ref k] => match lstAt st k with
    | some ys => match intsOf ys with
      | some is => match maxI is with
        | some m => .ok (.int m) st
        | none => .bad
      | none => .bad
    | none => .bad
  | _ => .bad
def fMin (xs : List PV) (st : Sto) : Res PV := match xs with
  | [.int i, .int j] => .ok (.int (if j < i then j else i)) st
  | [.ref k] => match lstAt st k with
    | some ys => match intsOf ys with
      | some is => match minI is with
        | some m => .ok (.int m) st
        | none => .bad
      | none => .bad
    | none => .bad
  | _ => .bad
def rMaxA (K : PySem.W.Frag) : List V → Hp → VK → Prop := fun xs H Q => (∃ i j, xs = [.int i, .int j] ∧ Q (.int (if j > i then j else i)) H) ∨ rMax K xs H Q
def rMinA (K : PySem.W.Frag) : List V → Hp → VK → Prop := fun xs H Q => (∃ i j, xs = [.int i, .int j] ∧ Q (.int (if j < i then j else i)) H) ∨ rMin K xs H Q
theorem ok_max : CallOK J fMax (rMaxA J.W.K) := by
  intro E H ρ st ps xs Q r h g
  unfold fMax at g
  split at g
  · rename_i i j
    obtain ⟨x, y, rfl, hx, hy⟩ := h.two
    have hx : x = .int i := hx
    have hy : y = .int j := hy
    subst hx hy
    exact .inl ⟨i, j, rfl, g H ρ _ (.refl r) rfl⟩
  · split at g
    · rename_i k ys e1
      split at g
      · rename_i is e2
        split at g
        · rename_i m e3
          obtain ⟨x, rfl, _, rfl⟩ := h.one
          obtain ⟨vs, q, hv⟩ := r.seq e1
          rw [rvs_ints e2 hv] at q
          obtain ⟨m1, m2⟩ := maxI_ok e3
          refine .inr ⟨_, is, rfl, q, List.length_pos_of_mem m1, fun k h1 h2 => ?_⟩
          have ek : k = m := by
            have a1 := m2 k h1
            have a2 := h2 m m1
            omega
          rw [ek]
          exact g H ρ _ (.refl r) rfl
        · exact g.elim
      · exact g.elim
    · exact g.elim
  · exact g.elim
theorem ok_min : CallOK J fMin (rMinA J.W.K) := by
  intro E H ρ st ps xs Q r h g
  unfold fMin at g
  split at g
  · rename_i i j
    obtain ⟨x, y, rfl, hx, hy⟩ := h.two
    have hx : x = .int i := hx
    have hy : y = .int j := hy
    subst hx hy
    exact .inl ⟨i, j, rfl, g H ρ _ (.refl r) rfl⟩
  · split at g
    · rename_i k ys e1
      split at g
      · rename_i is e2
        split at g
        · rename_i m e3
          obtain ⟨x, rfl, _, rfl⟩ := h.one
          obtain ⟨vs, q, hv⟩ := r.seq e1
          rw [rvs_ints e2 hv] at q
          obtain ⟨m1, m2⟩ := minI_ok e3
          refine .inr ⟨_, is, rfl, q, List.length_pos_of_mem m1, fun k h1 h2 => ?_⟩
          have ek : k = m := by
            have a1 := m2 k h1
            have a2 := h2 m m1
            omega
          rw [ek]
          exact g H ρ _ (.refl r) rfl
        · exact g.elim
      · exact g.elim
    · exact g.elim
  · exact g.elim
/-! ### sum, all, any -/
def fSum (xs : List PV) (st : Sto) : Res PV := match xs with
  | [.ref k] => match lstAt st k with
    | some ys => match intsOf ys with
      | some is => .ok (.int is.sum) st
      | none => .bad
    | none => .bad
  | _ => .bad
theorem ok_sum : CallOK J fSum (rSum J.W.K) := by
  intro E H ρ st ps xs Q r h g
  unfold fSum at g
  split at g
  · split at g
    · rename_i k ys e1
      split at g
      · rename_i is e2
        obtain ⟨x, rfl, _, rfl⟩ := h.one
        obtain ⟨vs, q, hv⟩ := r.seq e1
        rw [rvs_ints e2 hv] at q
        exact ⟨_, is, rfl, q, g H ρ _ (.refl r) rfl⟩
      · exact g.elim
    · exact g.elim
  · exact g.elim
def fBls (f : List Bool → Bool) (xs : List PV) (st : Sto) : Res PV := match xs with
  | [.ref k] => match lstAt st k with
    | some ys => match blsOf ys with
      | some is => .ok (.bl (f is)) st
      | none => .bad
    | none => .bad
  | _ => .bad
def fAll := fBls fun bs => bs.all id
def fAny := fBls fun bs => bs.any id
theorem ok_bls {f : List Bool → Bool} : CallOK J (fBls f) (fun vs H Q => ∃ (a : Addr) (bs : List Bool), vs = [V.ref a] ∧ SqL J.W.K H a (bs.map V.bl) ∧ Q (.bl (f bs)) H) := by
  intro E H ρ st ps xs Q r h g
  unfold fBls at g
  split at g
  · split at g
    · rename_i k ys e1
      split at g
      · rename_i is e2
        obtain ⟨x, rfl, _, rfl⟩ := h.one
        obtain ⟨vs, q, hv⟩ := r.seq e1
        rw [rvs_bls e2 hv] at q
        exact ⟨_, is, rfl, q, g H ρ _ (.refl r) rfl⟩
      · exact g.elim
    · exact g.elim
  · exact g.elim
/-! ### list, tuple -/
def fTuple (xs : List PV) (st : Sto) : Res PV := match xs with
  | [p] => match seqOf st p with
    | some ys => .ok (.tup ys) st
    | none => .bad
  | _ => .bad
abbrev rTupA (K : PySem.W.Frag) : List V → Hp → VK → Prop := fun xs H Q => ∃ p ys, xs = [.ref p] ∧ ((SqL K H p ys ∧ ∀ l, H l = none → Q (.ref l) (upd H l (.tup ys))) ∨ (SqT K H p ys ∧ Q (.ref p) H))
theorem ok_tupleA : CallOK J fTuple (rTupA J.W.K) := by
  intro E H ρ st ps xs Q r h g
  unfold fTuple at g
  split at g
  · split at g
    · rename_i p ys e
      obtain ⟨x, rfl, hx⟩ := h.one
      obtain ⟨a, vs, rfl, q, hv⟩ := seq_ok r hx e
      refine ⟨a, vs, rfl, ?_⟩
      rcases q with q | q
      · exact .inl ⟨q, fun l hl => g _ ρ _ (.newT r hl) (rv_newT hl hv)⟩
      · exact .inr ⟨q, g H ρ _ (.refl r) ⟨a, vs, rfl, q, hv⟩⟩
    · exact g.elim
  · exact g.elim
def fList (xs : List PV) (st : Sto) : Res PV := match xs with
  | [.str s] => if szOk s.length = true then .ok (.ref st.length) (st ++ [.lst (s.map fun c => PV.str [c])]) else .bad
  | [p] => match seqOf st p with
    | some ys => .ok (.ref st.length) (st ++ [.lst ys])
    | none => .bad
  | _ => .bad
def rListA (K : PySem.W.Frag) : List V → Hp → VK → Prop := fun xs H Q => (∃ p ys, xs = [.ref p] ∧ (SqL K H p ys ∨ SqT K H p ys) ∧ ∀ l, H l = none → Q (.ref l) (upd H l (.lst ys))) ∨
  ∃ z : Str, xs = [.str z] ∧ z.length ≤ sizeLine ∧ ∀ l, H l = none → Q (.ref l) (upd H l (.lst (z.cps.toList.map fun c => V.str ⟨#[c]⟩)))
theorem vals_signs {x : Str} {acc : Array Value} (h : ItemsOf (SignAt x) acc x.cps.size) : Vals (x.cps.toList.map fun c => V.str ⟨#[c]⟩) acc.toList := by
  have key : ∀ (l : List Nat) (us : List Value), us.length = l.length → (∀ (j : Nat) (v : Value), us[j]? = some v → ∃ (c : Nat) (u : Tok), l[j]? = some c ∧ v = Value.str ⟨#[c]⟩ u) → Vals (l.map fun c => V.str ⟨#[c]⟩) us := by
    intro l
    induction l with
    | nil =>
      intro us hl _
      have : us = [] := List.length_eq_zero_iff.mp hl
      rw [this]
      exact .nil
    | cons c l ih =>
      intro us hl hv
      cases us with
      | nil => cases hl
      | cons u us =>
        obtain ⟨d, t, e1, e2⟩ := hv 0 u rfl
        cases e1
        refine .cons ⟨t, e2⟩ (ih us (Nat.succ.inj hl) fun j v e => ?_)
        obtain ⟨d, t, e1, e2⟩ := hv (j + 1) v (by simpa using e)
        exact ⟨d, t, by simpa using e1, e2⟩
  refine key _ _ (by rw [Array.length_toList, h.1, Array.length_toList]) fun j v e => ?_
  obtain ⟨c, u, e1, e2⟩ := h.2 j v (by simpa using e)
  exact ⟨c, u, by simpa using e1, e2⟩
theorem call_listA {X : Cx} (hc : X.calm = true) : CallR X (.type "list") (rListA X.K) := by
  intro pins s σ H xs us Q I r h
  rcases h with h | h
  · exact call_list_of pins s σ H xs us Q I r h
  · obtain ⟨z, rfl, hz, q⟩ := h
    obtain ⟨u, rfl, t, rfl⟩ := vals1 r
    refine call_list_str (I.ok.hd hc) z t (fun h' tk acc c' hk hS hi => ?_) hz
    have rv := vals_signs hi
    have hl : (z.cps.toList.map fun c => V.str ⟨#[c]⟩).length ≤ sizeLine := by
      rw [List.length_map, Array.length_toList]
      exact hz
    refine ⟨.ref s.heap.objs.size, _, I.laid (o := .lst (z.cps.toList.map fun c => V.str ⟨#[c]⟩)) (h' := h') (t' := tk) hk (Nat.le_refl _) ⟨hl, acc.toList, c', rv, ?_⟩, rfl, q _ (I.hok.fresh (Nat.le_refl _))⟩
    rw [Array.toArray_toList]
    exact hS
theorem ok_listA : CallOK J fList (rListA J.W.K) := by
  intro E H ρ st ps xs Q r h g
  unfold fList at g
  split at g
  · rename_i s
    split at g
    · rename_i hz
      obtain ⟨x, rfl, hx⟩ := h.one
      have hx : x = .str (toS s) := hx
      subst hx
      refine .inr ⟨_, rfl, by rw [str_len]; exact szOk_le hz, fun l hl => g _ _ _ (.newL r hl ?_) ⟨by simp, by rw [put_same]⟩⟩
      have e : (toS s).cps.toList = s := by simp
      rw [e]
      exact rvs_signs s
    · exact g.elim
  · split at g
    · rename_i p _ ys e
      obtain ⟨x, rfl, hx⟩ := h.one
      obtain ⟨a, vs, rfl, q, hv⟩ := seq_ok r hx e
      exact .inl ⟨a, vs, rfl, q, fun l hl => g _ _ _ (.newL r hl hv) ⟨by simp, by rw [put_same]⟩⟩
    · exact g.elim
  · exact g.elim
end
end Mi
end
section
set_option maxRecDepth 100000
set_option maxHeartbeats 4000000
namespace Mi
open PySem PySem.Spec PyProof.Rows L2
/-! ### isinstance -/
theorem pe_bty {X : Cx} {x : Str} {T : String} {pos : Pos} (hg : Gl X x) (hm : X.mg x = none) (hv : bootBuiltins x = some (.type T)) (hn : x ≠ "__name__" := by decide) (hd : (x == ("__debug__" : Str)) = false := by decide) : PE X (.Name x pos) (tC (.ty T)) :=
  ⟨fun _ _ _ H _ I h => ld_blt I hg hm hv ⟨.ty T, H, I, rfl, h⟩ hn hd⟩
/-- types by number: what a value is; what is asked -/
inductive Ty where
  | int | bool | str | tuple | list | dict | non
  deriving DecidableEq
def Ty.nm : Ty → String
  | .int => "int"
  | .bool => "bool"
  | .str => "str"
  | .tuple => "tuple"
  | .list => "list"
  | .dict => "dict"
  | .non => "NoneType"
def isiB : Ty → Ty → Bool
  | .int, .int => true
  | .bool, .int => true
  | .bool, .bool => true
  | .str, .str => true
  | .tuple, .tuple => true
  | .list, .list => true
  | .dict, .dict => true
  | _, _ => false
theorem isi_kit : ∀ a b : Ty, b ≠ .non → kitB a.nm b.nm = some (isiB a b) := by
  intro a b h
  cases a <;> cases b <;> first | exact absurd rfl h | decide +kernel
def tyOf (st : Sto) : PV → Option Ty
  | .non => some .non
  | .bl _ => some .bool
  | .int _ => some .int
  | .str _ => some .str
  | .tup _ => some .tuple
  | .ref k => match st[k]? with
    | some (.lst _) => some .list
    | some (.fz _) => some .list
    | some (.dct _) => some .dict
    | none => none
  | _ => none
def fIsi (T : Ty) (p : PV) (st : Sto) : Res PV := match tyOf st p with
  | some t => .ok (.bl (isiB t T)) st
  | none => .bad
section
variable {W : Wd} {H : Hp} {ρ : Nat → Addr} {st : Sto}
theorem ty_ok {p : PV} {x : V} {t : Ty} (r : RSt W H ρ st) (h : RV W H ρ st.length p x) (e : tyOf st p = some t) : TyX W.K H x (.type t.nm) := by
  cases p <;> simp only [tyOf] at e <;> try (cases e; done)
  · cases e
    have h : x = .non := h
    subst h
    exact .base .non
  · cases e
    rename_i b
    have h : x = .bl b := h
    subst h
    exact .base (.bl b)
  · cases e
    rename_i b
    have h : x = .int b := h
    subst h
    exact .base (.int b)
  · cases e
    rename_i b
    have h : x = .str (toS b) := h
    subst h
    exact .base (.str _)
  · cases e
    obtain ⟨a, vs, rfl, (q | ⟨o, q⟩) | q, _⟩ := h
    · exact .base (.tup q)
    · exact .fTuple q
    · obtain ⟨o, its, n, q1, q2, _⟩ := q
      exact .kTuple q1 q2
  · rename_i k
    obtain ⟨_, rfl⟩ := h
    split at e
    · rename_i xs e1
      cases e
      obtain ⟨vs, q, _⟩ := r.obj k _ e1
      exact .base (.lst q)
    · rename_i xs e1
      cases e
      obtain ⟨vs, q, _⟩ := r.obj k _ e1
      rcases q with ⟨o, q⟩ | ⟨o, its, n, q1, q2, _⟩
      · exact .base (.frz q)
      · exact .kList q1 q2
    · rename_i xs e1
      cases e
      obtain ⟨vs, q, _⟩ := r.obj k _ e1
      exact .base (.dK q)
    · cases e
end
section
variable {X : Cx} {J : Jx} {e : Expr} {de : DE}
theorem xe_isi {T : Str} {ty : Ty} {p p2 pos : Pos} (J2 : XJ X J) (hg : Gl X "isinstance") (hm : X.mg "isinstance" = none) (hT : Gl X T) (hmT : X.mg T = none) (hv : bootBuiltins T = some (.type ty.nm)) (hty : ty ≠ .non) (he : PE X e (rdE J de)) (hnT : T ≠ "__name__" := by decide) (hdT : (T == ("__debug__" : Str)) = false := by decide)
    (hs : starEach [e, .Name T p2] X.env = (false, eval e X.env) :: starEach [.Name T p2] X.env := by rfl) : PE X (.Call (.Name "isinstance" p) [e, .Name T p2] [] pos) (rdE J (dUn (fIsi ty) de)) :=
  PE.imp (pe_callB call_isi hg hm (by decide +kernel) (pa_cons he (pa_cons (pe_bty hT hmT hv hnT hdT) pa_nil (by rfl)) hs) (by decide) (by decide) hs (by rfl)) fun σ H Q h =>
    rd_bind J2.st h fun ρ th env st v x H1 S rv g => by
      unfold fIsi at g
      split at g
      · rename_i t et
        exact ⟨x, .ty ty.nm, .type t.nm, .type ty.nm, isiB t ty, rfl, .ty _, by rw [← J2.K]; exact ty_ok S.rs rv et, kit_ty (isi_kit t ty hty), g H1 ρ _ (.refl S.rs) rfl⟩
      · exact g.elim
/-! ### repr -/
def fRepr (xs : List PV) (st : Sto) : Res PV := match xs with
  | [p] => match dat 60 st p with
    | some d => if (d.showable && !d.hasDict && Nat.ble d.shown.length 16777216) = true then .ok (.str (ofS d.shown)) st else .bad
    | none => .bad
  | _ => .bad
def rReprA (K : PySem.W.Frag) : List V → Hp → VK → Prop := fun xs H Q => ∃ x d, xs = [x] ∧ Dp K H x d ∧ d.showable = true ∧ d.hasDict = false ∧ SeqAt.shaped d = true ∧ d.shown.length ≤ sizeLine ∧ Q (.str d.shown) H
theorem call_reprA (hgd : X.A.guards = some []) (hu : X.A.units + 66 < cLine) : CallR X (.builtin "repr") (rReprA X.K) := by
  intro pins s σ H xs us Q I r h
  obtain ⟨x, d, rfl, hd, h1, h2, h3, h4, q⟩ := h
  obtain ⟨u, rfl, ru⟩ := vals1 r
  have hdp := SeqAt.depth_of_shaped h3
  obtain ⟨as, rd⟩ := Dp.reads I d x u hd ru
  cases hd with
  | non =>
    have ru : u = Value.none := ru
    subst ru
    exact PySem.P.repr_of_none ⟨.str _, H, I.tok _, ⟨_, rfl⟩, q⟩
  | bl b =>
    have ru : u = Value.bool b := ru
    subst ru
    exact PySem.P.repr_of_bool ⟨.str _, H, I.tok _, ⟨_, rfl⟩, q⟩
  | int i =>
    obtain ⟨t, rfl⟩ := ru
    exact PySem.P.repr_of_int (of_decide_eq_true h1) ⟨.str _, H, I.tok _, ⟨_, rfl⟩, q⟩
  | str z =>
    obtain ⟨t, rfl⟩ := ru
    exact PySem.P.repr_of_str ⟨.str _, H, I.tok _, ⟨_, rfl⟩, q⟩ h4
  | lst _ _ =>
    have ru : u = _ := ru
    subst ru
    exact repr_of_reads' rd h1 (PyData.noDict_hsm h2) hgd (by omega) (fun _ _ e => e) (fun h' u tk hk => ⟨.str _, H, I.kept (t' := tk) hk, ⟨_, rfl⟩, q⟩) h4
  | tup _ _ =>
    have ru : u = _ := ru
    subst ru
    exact repr_of_reads' rd h1 (PyData.noDict_hsm h2) hgd (by omega) (fun _ _ e => e) (fun h' u tk hk => ⟨.str _, H, I.kept (t' := tk) hk, ⟨_, rfl⟩, q⟩) h4
theorem ok_repr : CallOK J fRepr (rReprA J.W.K) := by
  intro E H ρ st ps xs Q r h g
  unfold fRepr at g
  split at g
  · split at g
    · rename_i p d e
      split at g
      · rename_i hc
        rw [Bool.and_eq_true, Bool.and_eq_true] at hc
        obtain ⟨⟨c1, c2⟩, c3⟩ := hc
        obtain ⟨x, rfl, hx⟩ := h.one
        refine ⟨x, d, rfl, dat_dp r _ _ _ _ e hx, c1, by simpa using c2, shaped_dat (by decide) e, by rw [sizeLine_eq]; exact Nat.le_of_ble_eq_true c3, g H ρ _ (.refl r) rfl⟩
      · exact g.elim
    · exact g.elim
  · exact g.elim
/-! ### in -/
def datsOf (st : Sto) (xs : List PV) : Option (List PyData) := mapO (dat 59 st) xs
def pInB (x y : PV) (st : Sto) : Option Bool := match x, y with
  | .str a, .str b => match a with
    | [c] => some (decide (c ∈ b))
    | _ => some (!(Builtin.Str.occurrences (toS b) (toS a) 0 b.length 1).isEmpty)
  | x, y => match dat 60 st x with
    | some d => match seqOf st y with
      | some ys => match datsOf st ys with
        | some ds => some (ds.any fun z => PyData.eqv z d)
        | none => none
      | none => none
    | none => none
def pIn (x y : PV) (st : Sto) : Res PV := match pInB x y st with
  | some b => .ok (.bl b) st
  | none => .bad
def pNotIn (x y : PV) (st : Sto) : Res PV := match pInB x y st with
  | some b => .ok (.bl (!b)) st
  | none => .bad
def rInT (K : PySem.W.Frag) (f : Bool → Bool) : R2 := fun x y H Q => ∃ d ds, Dp K H x d ∧ (Dp K H y (.list ds) ∨ Dp K H y (.tuple ds)) ∧ SeqAt.shaped d = true ∧ SeqAt.shaped (.list ds) = true ∧ Q (.bl (f (ds.any fun z => PyData.eqv z d))) H
def rInA (K : PySem.W.Frag) (f : Bool → Bool) : R2 := fun x y H Q => (∃ (c : Nat) (z : Str), x = .str ⟨#[c]⟩ ∧ y = .str z ∧ Q (.bl (f (decide (c ∈ z.cps.toList)))) H) ∨ (∃ i j, x = .str i ∧ y = .str j ∧ Q (.bl (f (!(Builtin.Str.occurrences j i 0 j.length 1).isEmpty))) H) ∨ rInT K f x y H Q
theorem op_inT (hu : X.A.units + 65 < cLine) : OpR X (compareOp .In) (rInT X.K fun b => b) := by
  intro pins s σ H x y v u Q I rx ry h
  obtain ⟨d, ds, hd, he, sd, se, q⟩ := h
  obtain ⟨as, r1⟩ := Dp.reads I d x v hd rx
  rcases he with he | he
  · obtain ⟨bs, r2⟩ := Dp.reads I _ y u he ry
    exact SeqAt.in_list_reads r2 r1 (SeqAt.canLay_of_shaped se) (SeqAt.canLay_of_shaped sd) (room_in_shaped sd hu) ⟨.bl _, H, I, rfl, q⟩
  · obtain ⟨bs, r2⟩ := Dp.reads I _ y u he ry
    exact SeqAt.in_tuple_reads r2 r1 (SeqAt.canLay_of_shaped se) (SeqAt.canLay_of_shaped sd) (room_in_shaped sd hu) ⟨.bl _, H, I, rfl, q⟩
theorem op_notInT (hu : X.A.units + 65 < cLine) : OpR X (compareOp .NotIn) (rInT X.K fun b => !b) := by
  intro pins s σ H x y v u Q I rx ry h
  obtain ⟨d, ds, hd, he, sd, se, q⟩ := h
  obtain ⟨as, r1⟩ := Dp.reads I d x v hd rx
  rcases he with he | he
  · obtain ⟨bs, r2⟩ := Dp.reads I _ y u he ry
    exact SeqAt.notIn_list_reads r2 r1 (SeqAt.canLay_of_shaped se) (SeqAt.canLay_of_shaped sd) (room_in_shaped sd hu) ⟨.bl _, H, I, rfl, q⟩
  · obtain ⟨bs, r2⟩ := Dp.reads I _ y u he ry
    exact SeqAt.notIn_tuple_reads r2 r1 (SeqAt.canLay_of_shaped se) (SeqAt.canLay_of_shaped sd) (room_in_shaped sd hu) ⟨.bl _, H, I, rfl, q⟩
theorem op_inA (hu : X.A.units + 65 < cLine) : OpR X (compareOp .In) (rInA X.K fun b => b) := OpR.or op_in_sign (OpR.or op_in_str (op_inT hu))
theorem op_notInA (hu : X.A.units + 65 < cLine) : OpR X (compareOp .NotIn) (rInA X.K fun b => !b) := OpR.or op_notIn_sign (OpR.or op_notIn_str (op_notInT hu))
theorem inB_ok {f : Bool → Bool} {W : Wd} {H : Hp} {ρ : Nat → Addr} {st : Sto} {p q : PV} {x y : V} {b : Bool} {Q : VK} (r : RSt W H ρ st) (hx : RV W H ρ st.length p x) (hy : RV W H ρ st.length q y) (h : pInB p q st = some b) (hQ : Q (.bl (f b)) H) : rInA W.K f x y H Q := by
  unfold pInB at h
  split at h
  · rename_i a b'
    have hx : x = .str (toS a) := hx
    have hy : y = .str (toS b') := hy
    subst hx hy
    split at h
    · rename_i c
      cases h
      refine .inl ⟨c, toS b', rfl, rfl, ?_⟩
      have e : (toS b').cps.toList = b' := by simp
      rw [e]
      exact hQ
    · cases h
      refine .inr (.inl ⟨_, _, rfl, rfl, ?_⟩)
      rw [str_len]
      exact hQ
  · split at h
    · rename_i d ed
      split at h
      · rename_i ys ey
        split at h
        · rename_i ds eds
          cases h
          have hm := mapO_all (P := fun d => d.canLay0 = true ∧ d.depth ≤ 59) (dat_shape 59) eds
          have hsh : SeqAt.shaped (.list ds) = true := by
            unfold SeqAt.shaped
            rw [Bool.and_eq_true]
            refine ⟨canLayAll_of fun d q => (hm d q).1, decide_eq_true ?_⟩
            unfold PyData.depth
            have := depthAll_of fun d q => (hm d q).2
            omega
          refine .inr (.inr ⟨d, ds, dat_dp r _ _ _ _ ed hx, ?_, shaped_dat (by decide) ed, hsh, hQ⟩)
          obtain ⟨a, vs, rfl, q, hv⟩ := seq_ok r hy ey
          have hdp := mapO_dp r (dat_dp r 59) eds hv
          rcases q with q | q
          · exact .inl (.lst q hdp)
          · exact .inr (.tup q hdp)
        · cases h
      · cases h
    · cases h
theorem ok_in : OpOK J pIn (rInA J.W.K fun b => b) := by
  intro E H ρ st p q x y Q r hx hy g
  unfold pIn at g
  cases e : pInB p q st with
  | none =>
    rw [e] at g
    exact g.elim
  | some b =>
    rw [e] at g
    exact inB_ok r hx hy e (g H ρ (.bl b) (.refl r) rfl)
theorem ok_notIn : OpOK J pNotIn (rInA J.W.K fun b => !b) := by
  intro E H ρ st p q x y Q r hx hy g
  unfold pNotIn at g
  cases e : pInB p q st with
  | none =>
    rw [e] at g
    exact g.elim
  | some b =>
    rw [e] at g
    exact inB_ok r hx hy e (g H ρ (.bl (!b)) (.refl r) rfl)
/-! ### slices -/
def cutP {α : Type} (xs : List α) (lo hi : Option Int) : List α := (xs.drop (HT.sIx xs.length 0 lo)).take (HT.sIx xs.length xs.length hi - HT.sIx xs.length 0 lo)
theorem rvs_cut {W : Wd} {H : Hp} {ρ : Nat → Addr} {n : Nat} {ps : List PV} {vs : List V} (h : RVs W H ρ n ps vs) (lo hi : Option Int) : RVs W H ρ n (cutP ps lo hi) (cutV vs lo hi) := by
  unfold cutP cutV
  rw [h.length]
  exact (h.drop _).take _
def fSl (p : PV) (lo hi : Option Int) (st : Sto) : Res PV := match p with
  | .str s => if szOk s.length = true then .ok (.str (ofS (Txt.slice (toS s) lo hi))) st else .bad
  | .tup xs => .ok (.tup (cutP xs lo hi)) st
  | .ref k => match lstAt st k with
    | some xs => .ok (.ref st.length) (st ++ [.lst (cutP xs lo hi)])
    | none => .bad
  | _ => .bad
/-- a part of a slice: left out, or an expression -/
def dNoP : Dn (Option Int) := fun _ _ st => .ok none st
def dPt (d : DE) : Dn (Option Int) := fun th env st => (d th env st).bind fun v st => match v with
  | .int i => .ok (some i) st
  | _ => .bad
abbrev rdO (J : Jx) (d : Dn (Option Int)) : TO := rdR J (fun _ _ _ p x => x = p) d
theorem PO.imp {e : Option Expr} {t t' : TO} (h : PO X e t) (k : ∀ σ H Q, t' σ H Q → t σ H Q) : PO X e t' := ⟨fun pins s σ H Q I q => h.run pins s σ H Q I (k σ H Q q)⟩
theorem xo_none : PO X none (rdO J dNoP) := PO.imp po_none fun σ H Q h => by
  obtain ⟨ρ, th, env, st, S, g⟩ := h
  exact g H ρ none (.refl S.rs) rfl
theorem xo_some (J2 : XJ X J) (he : PE X e (rdE J de)) : PO X (some e) (rdO J (dPt de)) := PO.imp (po_some he) fun σ H Q h => rd_bind J2.st h fun ρ th env st v x H1 S rv g => by
  split at g
  · rename_i i
    exact ⟨i, rv, g H1 ρ _ (.refl S.rs) rfl⟩
  · exact g.elim
def dSl (a : DE) (l h : Dn (Option Int)) : DE := fun th env st => (a th env st).bind fun x st => (l th env st).bind fun lo st => (h th env st).bind fun hi st => fSl x lo hi st
def rSlAll (K : PySem.W.Frag) : V → Option Int → Option Int → Hp → VK → Prop := fun x lo hi H Q => C8.rSlX x lo hi H Q ∨ rSlA K x lo hi H Q ∨ rSlL K x lo hi H Q
theorem ok_sl {W : Wd} {E : XK} {H : Hp} {ρ : Nat → Addr} {st : Sto} {p : PV} {x : V} {lo hi : Option Int} {Q : VK} (r : RSt W H ρ st) (hx : RV W H ρ st.length p x) (g : gE W E (fSl p lo hi st) H ρ st.length Q) : rSlAll W.K x lo hi H Q := by
  unfold fSl at g
  split at g
  · split at g
    · rename_i s hz
      exact .inl ⟨toS s, hx, by rw [str_len]; exact szOk_le hz, g H ρ _ (.refl r) rfl⟩
    · exact g.elim
  · rename_i xs
    obtain ⟨a, vs, rfl, q, hv⟩ := hx
    refine .inr (.inl ⟨a, vs, rfl, q, fun hw => g H ρ _ (.refl r) ⟨a, vs, rfl, q, ?_⟩, fun _ l hl => g _ ρ _ (.newT r hl) (rv_newT hl (rvs_cut hv lo hi))⟩)
    unfold cutP
    rw [hv.length, hw.1, hw.2, List.drop_zero, Nat.sub_zero, ← hv.length, List.take_length]
    exact hv
  · split at g
    · rename_i k xs e
      obtain ⟨_, rfl⟩ := hx
      obtain ⟨vs, q, hv⟩ := r.seq e
      exact .inr (.inr ⟨_, vs, rfl, q, fun l hl => g _ _ _ (.newL r hl (rvs_cut hv lo hi)) ⟨by simp, by rw [put_same]⟩⟩)
    · exact g.elim
  · exact g.elim
theorem xe_sl {lo hi : Option Expr} {dlo dhi : Dn (Option Int)} {pos p2 : Pos} (J2 : XJ X J) (he : PE X e (rdE J de)) (hl : PO X lo (rdO J dlo)) (hh : PO X hi (rdO J dhi)) : PE X (.Subscript e (.Slice lo hi none p2) pos) (rdE J (dSl de dlo dhi)) :=
  PE.imp (pe_slice (r := rSlAll X.K) (SlR.or C8.sl_txt (SlR.or sl_tupA sl_list)) he hl hh) fun σ H Q h => rd_bind J2.st h fun ρ th env st v x H1 S rv g =>
    rd_of S (gR.bind g fun lo st2 H2 ρ2 l _ s2 r2 g2 => rd_of (S.step J2.st s2) (gR.bind g2 fun hi st3 H3 ρ3 u _ s3 r3 g3 => by
      have r2 : l = lo := r2
      have r3 : u = hi := r3
      subst r2 r3
      rw [← J2.K]
      exact ok_sl s3.rs (s3.rv (s2.rv rv)) g3))
end
end Mi
end
section
set_option maxRecDepth 100000
set_option maxHeartbeats 4000000
namespace Mi
open PySem PySem.Spec PyProof.Rows L2
/-! ### sorting -/
section
variable {α : Type}
def insS (le : α → α → Bool) (x : α) : List α → List α
  | [] => [x]
  | y :: r => if le x y = true then x :: y :: r else y :: insS le x r
def sortS (le : α → α → Bool) : List α → List α
  | [] => []
  | x :: r => insS le x (sortS le r)
theorem insS_perm (le : α → α → Bool) (x : α) : ∀ l, (insS le x l).Perm (x :: l)
  | [] => .refl _
  | y :: r => by
    unfold insS
    split
    · exact .refl _
    · exact ((insS_perm le x r).cons y).trans (.swap x y r)
theorem sortS_perm (le : α → α → Bool) : ∀ l, (sortS le l).Perm l
  | [] => .refl _
  | x :: r => (insS_perm le x _).trans ((sortS_perm le r).cons x)
theorem insS_srt {le : α → α → Bool} (tot : ∀ a b, le a b = true ∨ le b a = true) (tr : ∀ a b c, le a b = true → le b c = true → le a c = true) (x : α) : ∀ l, l.Pairwise (fun a b => le a b = true) → (insS le x l).Pairwise (fun a b => le a b = true)
  | [], _ => List.pairwise_singleton _ _
  | y :: r, h => by
    obtain ⟨h1, h2⟩ := List.pairwise_cons.mp h
    unfold insS
    split
    · rename_i e
      refine List.pairwise_cons.mpr ⟨fun z hz => ?_, h⟩
      rcases List.mem_cons.mp hz with rfl | hz
      · exact e
      · exact tr _ _ _ e (h1 z hz)
    · rename_i e
      refine List.pairwise_cons.mpr ⟨fun z hz => ?_, insS_srt tot tr x r h2⟩
      rcases List.mem_cons.mp ((insS_perm le x r).mem_iff.mp hz) with rfl | hz
      · exact (tot z y).resolve_left e
      · exact h1 z hz
theorem sortS_srt {le : α → α → Bool} (tot : ∀ a b, le a b = true ∨ le b a = true) (tr : ∀ a b c, le a b = true → le b c = true → le a c = true) : ∀ l, (sortS le l).Pairwise (fun a b => le a b = true)
  | [] => .nil
  | x :: r => insS_srt tot tr x _ (sortS_srt tot tr r)
theorem sortS_eq {le : α → α → Bool} (tot : ∀ a b, le a b = true ∨ le b a = true) (tr : ∀ a b c, le a b = true → le b c = true → le a c = true) (anti : ∀ a b, le a b = true → le b a = true → a = b) {l m : List α} (p : m.Perm l) (h : m.Pairwise fun a b => le a b = true) : m = sortS le l :=
  List.Perm.eq_of_pairwise (le := fun a b => le a b = true) (fun a b _ _ => anti a b) h (sortS_srt tot tr l) (p.trans (sortS_perm le l).symm)
end
def leI (a b : Int) : Bool := decide (a ≤ b)
def leS (a b : List Nat) : Bool := !ltCps b a
def leP (p q : Int × Int) : Bool := !SrtO.lexB q p
theorem ltCps_irrefl : ∀ a, ltCps a a = false
  | [] => rfl
  | a :: r => by simp [ltCps, ltCps_irrefl r]
theorem ltCps_asymm : ∀ a b, ltCps a b = true → ltCps b a = false
  | [], [], h => by cases h
  | [], _ :: _, _ => rfl
  | _ :: _, [], h => by cases h
  | a :: r, b :: t, h => by
    simp only [ltCps, Bool.or_eq_true, Bool.and_eq_true, decide_eq_true_eq, beq_iff_eq] at h
    simp only [ltCps, Bool.or_eq_false_iff, Bool.and_eq_false_iff, decide_eq_false_iff_not, beq_eq_false_iff_ne]
    rcases h with h | ⟨h, h2⟩
    · exact ⟨by omega, .inl (by omega)⟩
    · exact ⟨by omega, .inr (ltCps_asymm r t h2)⟩
theorem ltCps_tri : ∀ a b, ltCps a b = false → ltCps b a = false → a = b
  | [], [], _, _ => rfl
  | [], _ :: _, h, _ => by cases h
  | _ :: _, [], _, h => by cases h
  | a :: r, b :: t, h, k => by
    simp only [ltCps, Bool.or_eq_false_iff, Bool.and_eq_false_iff, decide_eq_false_iff_not, beq_eq_false_iff_ne] at h k
    have e : a = b := by omega
    subst e
    have h2 := h.2.resolve_left (fun z => z rfl)
    have k2 := k.2.resolve_left (fun z => z rfl)
    rw [ltCps_tri r t h2 k2]
theorem ltCps_trans : ∀ a b c, ltCps a b = true → ltCps b c = true → ltCps a c = true
  | [], [], _, h, _ => by cases h
  | [], _ :: _, [], _, k => by cases k
  | [], _ :: _, _ :: _, _, _ => rfl
  | _ :: _, [], _, h, _ => by cases h
  | _ :: _, _ :: _, [], _, k => by cases k
  | a :: r, b :: t, c :: u, h, k => by
    simp only [ltCps, Bool.or_eq_true, Bool.and_eq_true, decide_eq_true_eq, beq_iff_eq] at h k ⊢
    rcases h with h | ⟨h, h2⟩ <;> rcases k with k | ⟨k, k2⟩
    · exact .inl (by omega)
    · exact .inl (by omega)
    · exact .inl (by omega)
    · exact .inr ⟨by omega, ltCps_trans r t u h2 k2⟩
theorem leS_tot (a b : List Nat) : leS a b = true ∨ leS b a = true := by
  unfold leS
  cases h : ltCps b a with
  | false => exact .inl rfl
  | true => exact .inr (by rw [ltCps_asymm _ _ h] <;> rfl)
theorem leS_anti (a b : List Nat) (h : leS a b = true) (k : leS b a = true) : a = b := by
  unfold leS at h k
  exact ltCps_tri a b (by simpa using k) (by simpa using h)
theorem leS_trans (a b c : List Nat) (h : leS a b = true) (k : leS b c = true) : leS a c = true := by
  unfold leS at *
  simp only [Bool.not_eq_true'] at *
  cases e : ltCps c a with
  | false => rfl
  | true =>
    exfalso
    by_cases hab : a = b
    · subst hab
      rw [e] at k
      cases k
    · have h1 : ltCps a b = true := by
        cases q : ltCps a b with
        | true => rfl
        | false => exact absurd (ltCps_tri a b q h) hab
      have := ltCps_trans c a b e h1
      rw [k] at this
      cases this
theorem leP_iff {p q : Int × Int} : leP p q = true ↔ ¬ (q.1 < p.1 ∨ (q.1 = p.1 ∧ q.2 < p.2)) := by
  unfold leP
  rw [← SrtO.lexB_iff]
  cases SrtO.lexB q p <;> simp
theorem leP_tot (a b : Int × Int) : leP a b = true ∨ leP b a = true := by
  rw [leP_iff, leP_iff]
  omega
theorem leP_anti (a b : Int × Int) (h : leP a b = true) (k : leP b a = true) : a = b := by
  rw [leP_iff] at h k
  exact Prod.ext (by omega) (by omega)
theorem leP_trans (a b c : Int × Int) (h : leP a b = true) (k : leP b c = true) : leP a c = true := by
  rw [leP_iff] at h k ⊢
  omega
/-- pairs of ints at V's -/
def pairsOf : List PV → Option (List (Int × Int))
  | [] => some []
  | .tup [.int i, .int j] :: r => match pairsOf r with
    | some is => some ((i, j) :: is)
    | none => none
  | _ :: _ => none
def PrAt (K : PySem.W.Frag) (H : Hp) (x : V) (p : Int × Int) : Prop := ∃ t, x = .ref t ∧ SqT K H t [.int p.1, .int p.2]
theorem rvs_pairs {W : Wd} {H : Hp} {ρ : Nat → Addr} {n : Nat} : ∀ {ps : List PV} {is : List (Int × Int)} {vs : List V}, pairsOf ps = some is → RVs W H ρ n ps vs → Paired (PrAt W.K H) vs is
  | [], is, vs, e, h => by
    cases e
    have h : vs = [] := h
    subst h
    exact .nil
  | p :: ps, is, vs, e, ⟨v, r, e2, h1, h2⟩ => by
    unfold pairsOf at e
    split at e
    · rename_i e3
      cases e3
    · rename_i i j ps' e3
      cases e3
      split at e
      · rename_i js ejs
        cases e
        subst e2
        obtain ⟨a, us, rfl, q, hu⟩ := h1
        obtain ⟨y, z, rfl, hy, hz⟩ := hu.two
        have hy : y = .int i := hy
        have hz : z = .int j := hz
        subst hy hz
        exact .cons ⟨a, rfl, q⟩ (rvs_pairs ejs h2)
      · cases e
    · cases e
theorem rvs_of_pairs {W : Wd} {H : Hp} {ρ : Nat → Addr} {n : Nat} : ∀ {is : List (Int × Int)} {vs : List V}, Paired (PrAt W.K H) vs is → RVs W H ρ n (is.map fun p => .tup [.int p.1, .int p.2]) vs
  | _, _, .nil => rfl
  | _, _, .cons ⟨t, e, q⟩ h => ⟨_, _, rfl, ⟨t, _, e, q, ⟨_, _, rfl, rfl, _, _, rfl, rfl, rfl⟩⟩, rvs_of_pairs h⟩
/-- sorted(list of pairs) -/
def rSortedPT (K : PySem.W.Frag) : List V → Hp → VK → Prop := fun vs H Q => ∃ (a : Addr) (xs : List V) (is : List (Int × Int)), vs = [V.ref a] ∧ SqL K H a xs ∧ Paired (PrAt K H) xs is ∧
  ∀ ys p, Paired (PrAt K H) ys (sortS leP is) → H p = none → Q (.ref p) (upd H p (.lst ys))
theorem paired_mem {α β : Type} {R : α → β → Prop} : ∀ {xs : List α} {ys : List β}, Paired R xs ys → ∀ x ∈ xs, ∃ y, R x y
  | _, _, .nil, x, h => by cases h
  | _, _, .cons r t, x, h => by
    rcases List.mem_cons.mp h with rfl | h
    · exact ⟨_, r⟩
    · exact paired_mem t x h
section
variable {X : Cx} {J : Jx}
open Classical in
/-- the ints of the pair at a V, if there is one -/
noncomputable def prK (K : PySem.W.Frag) (H : Hp) (x : V) : Int × Int := if h : ∃ p, PrAt K H x p then h.choose else (0, 0)
theorem prK_at {K : PySem.W.Frag} {H : Hp} {x : V} {p : Int × Int} (h : PrAt K H x p) : PrAt K H x (prK K H x) := by
  unfold prK
  rw [dif_pos ⟨p, h⟩]
  exact Exists.choose_spec (⟨p, h⟩ : ∃ p, PrAt K H x p)
theorem prAt_inj {pins : List (Addr × Obj)} {σ : L2.St} {H : Hp} {s : Shared} (I : Inv X pins σ H s) {x : V} {p q : Int × Int} (h : PrAt X.K H x p) (k : PrAt X.K H x q) : p = q := by
  obtain ⟨t, rfl, h⟩ := h
  obtain ⟨t', e, k⟩ := k
  cases e
  have := I.tuple_inj h k
  injection this with e1 e2
  injection e1 with e1
  injection e2 with e2
  injection e2 with e2
  exact Prod.ext e1 e2
theorem cr_sortedPT : CallR X (.builtin "sorted") (rSortedPT X.K) := by
  intro pins s σ H vs us Q I r h
  obtain ⟨a, xs, is, rfl, hs, hx, q⟩ := h
  obtain ⟨its, rv, hl, hz⟩ := I.list hs
  obtain ⟨u, rfl, ru⟩ := vals1 r
  have ru : u = Value.ref a := ru
  subst ru
  obtain ⟨e1, e2⟩ := refs_back rv fun x m => by
    obtain ⟨p, t, e, _⟩ := paired_mem hx x m
    exact ⟨t, e⟩
  have ek : ∀ {ys : List V} {js : List (Int × Int)}, Paired (PrAt X.K H) ys js → js = ys.map (prK X.K H) := fun {ys js} h => by
    induction h with
    | nil => rfl
    | cons r t ih => rw [List.map_cons, ← ih, prAt_inj I r (prK_at r)]
  refine SrtO.sorted_pairsO (k := fun u => prK X.K H (backV u)) hl.isList (by rw [← rv.length]; exact hz) (fun v hv => ?_) fun h' d out h1 h2 kp hd hn => ?_
  · obtain ⟨t, rfl⟩ := e2 v hv
    have hm : V.ref t ∈ xs := by
      rw [e1]
      exact List.mem_map.mpr ⟨_, hv, rfl⟩
    obtain ⟨p, hp⟩ := paired_mem hx _ hm
    obtain ⟨t', e, q⟩ := prK_at hp
    cases e
    obtain ⟨its2, r2, ⟨o, ho, hc, n, hdd⟩, _⟩ := I.tuple q
    obtain ⟨u1, u2, rfl, ⟨t1, rfl⟩, t2, rfl⟩ := vals2 r2
    exact ⟨t, o, t1, t2, n, rfl, ho, hc, hdd⟩
  · have h3 : ∀ u ∈ out, ∃ a, u = Value.ref a := fun u hu => e2 u (h2.perm.mem_iff.mp hu)
    obtain ⟨n, hn⟩ := hn
    have pm : (out.map backV).Perm xs := by
      rw [e1]
      exact h2.perm.map backV
    have hp : Paired (PrAt X.K H) (out.map backV) ((out.map backV).map (prK X.K H)) := by
      have : ∀ y ∈ out.map backV, PrAt X.K H y (prK X.K H y) := fun y hy => by
        obtain ⟨p, hp⟩ := paired_mem hx y (pm.mem_iff.mp hy)
        exact prK_at hp
      generalize out.map backV = ys at this
      induction ys with
      | nil => exact .nil
      | cons y ys ih => exact .cons (this y List.mem_cons_self) (ih fun z hz => this z (List.mem_cons_of_mem _ hz))
    have es : (out.map backV).map (prK X.K H) = sortS leP is := by
      refine sortS_eq leP_tot leP_trans leP_anti ?_ ?_
      · rw [ek hx]
        exact pm.map _
      · rw [List.map_map, List.pairwise_map]
        refine h1.imp fun {x y} hxy => ?_
        unfold leP
        have hxy : SrtO.lexB (prK X.K H (backV y)) (prK X.K H (backV x)) = false := hxy
        show (!SrtO.lexB (prK X.K H (backV y)) (prK X.K H (backV x))) = true
        rw [hxy] <;> rfl
    rw [es] at hp
    refine ⟨.ref d, upd H d (.lst (out.map backV)), I.laid (t' := s.toks) kp hd ⟨?_, out, n, vals_back h3, hn⟩, rfl, q _ d hp (I.hok.fresh hd)⟩
    rw [pm.length_eq]
    exact hz
def fSorted (xs : List PV) (st : Sto) : Res PV := match xs with
  | [.ref k] => match lstAt st k with
    | some ys => match intsOf ys with
      | some is => .ok (.ref st.length) (st ++ [.lst ((sortS leI is).map .int)])
      | none => match strsOf ys with
        | some ss => if Nat.blt ss.length 64 = true then .ok (.ref st.length) (st ++ [.lst ((sortS leS ss).map .str)]) else .bad
        | none => match pairsOf ys with
          | some is => .ok (.ref st.length) (st ++ [.lst ((sortS leP is).map fun p => .tup [.int p.1, .int p.2])])
          | none => .bad
    | none => .bad
  | _ => .bad
def rSortAll (K : PySem.W.Frag) : List V → Hp → VK → Prop := fun xs H Q => rSortedI K xs H Q ∨ rSortedS K xs H Q ∨ rSortedPT K xs H Q
theorem call_sortA : CallR X (.builtin "sorted") (rSortAll X.K) := CallR.or cr_sortedI (CallR.or cr_sortedS cr_sortedPT)
theorem risingS_pw : ∀ (p : Str) (l : List Str), risingS p l = true → (p :: l).Pairwise fun a b => leS (ofS a) (ofS b) = true
  | p, [], _ => List.pairwise_singleton _ _
  | p, x :: r, h => by
    unfold risingS at h
    rw [Bool.and_eq_true] at h
    have ih := risingS_pw x r h.2
    have h1 : leS (ofS p) (ofS x) = true := h.1
    refine List.pairwise_cons.mpr ⟨fun z hz => ?_, ih⟩
    rcases List.mem_cons.mp hz with rfl | hz
    · exact h1
    · exact leS_trans _ _ _ h1 ((List.pairwise_cons.mp ih).1 z hz)
theorem ok_sorted : CallOK J fSorted (rSortAll J.W.K) := by
  intro E H ρ st ps xs Q r h g
  unfold fSorted at g
  split at g
  · split at g
    · rename_i k ys e1
      obtain ⟨x, rfl, _, rfl⟩ := h.one
      obtain ⟨vs, q, hv⟩ := r.seq e1
      split at g
      · rename_i is e2
        rw [rvs_ints e2 hv] at q
        refine .inl ⟨_, is, rfl, q, fun ns' p h1 h2 hp => ?_⟩
        have e := sortS_eq (le := leI) (fun a b => by unfold leI; rw [decide_eq_true_eq, decide_eq_true_eq]; omega) (fun a b c => by unfold leI; simp only [decide_eq_true_eq]; omega) (fun a b => by unfold leI; simp only [decide_eq_true_eq]; omega) h1 (h2.imp fun hxy => by unfold leI; exact decide_eq_true hxy)
        subst e
        exact g _ _ _ (.newL r hp (rvs_of_ints _)) ⟨by simp, by rw [put_same]⟩
      · split at g
        · rename_i ss e2
          split at g
          · rename_i hz
            rw [rvs_strs e2 hv] at q
            refine .inr (.inl ⟨_, ss.map toS, rfl, q, by rw [List.length_map]; exact Nat.le_of_ble_eq_true hz, fun zs p h1 h2 hp => ?_⟩)
            have e : zs.map ofS = sortS leS ss := by
              refine sortS_eq leS_tot leS_trans leS_anti ?_ ?_
              · have := h1.map ofS
                rw [List.map_map] at this
                have e3 : (ofS ∘ toS) = id := by
                  funext z
                  show (z.toArray).toList = z
                  simp
                rw [e3, List.map_id] at this
                exact this
              · rw [List.pairwise_map]
                cases zs with
                | nil => exact .nil
                | cons z zs => exact risingS_pw z zs h2
            have e4 : zs = (sortS leS ss).map toS := by
              rw [← e, List.map_map]
              have : (toS ∘ ofS) = id := by
                funext z
                exact toS_ofS z
              rw [this, List.map_id]
            subst e4
            exact g _ _ _ (.newL r hp (rvs_of_strs _)) ⟨by simp, by rw [put_same]⟩
          · exact g.elim
        · split at g
          · rename_i is e2
            refine .inr (.inr ⟨_, vs, is, rfl, q, rvs_pairs e2 hv, fun zs p h1 hp => ?_⟩)
            exact g _ _ _ (.newL r hp (rvs_of_pairs h1)) ⟨by simp, by rw [put_same]⟩
          · exact g.elim
    · exact g.elim
  · exact g.elim
end
end Mi
end
section
set_option maxRecDepth 100000
set_option maxHeartbeats 4000000
namespace Mi
open PySem PySem.Spec PyProof.Rows L2
section
variable {X : Cx} {J : Jx}
/-! ### methods -/
def isStr (p : PV) (_ : Sto) : Bool := match p with
  | .str _ => true
  | _ => false
def isTup (p : PV) (_ : Sto) : Bool := match p with
  | .tup _ => true
  | _ => false
def isLst (p : PV) (st : Sto) : Bool := match p with
  | .ref k => (lstAt st k).isSome
  | _ => false
theorem ty_str : TyOK J "str" isStr := by
  intro H ρ st p x r h e
  cases p <;> simp only [isStr] at e <;> try (cases e; done)
  rename_i s
  have h : x = .str (toS s) := h
  subst h
  exact rfl
theorem ty_lst : TyOK J "list" isLst := by
  intro H ρ st p x r h e
  cases p <;> simp only [isLst] at e <;> try (cases e; done)
  rename_i k
  obtain ⟨_, rfl⟩ := h
  obtain ⟨xs, ex⟩ := Option.isSome_iff_exists.mp e
  obtain ⟨vs, q, _⟩ := r.seq ex
  exact .inl ⟨rfl, vs, q⟩
/-- a list of the store, written -/
def onLst (p : PV) (st : Sto) (f : List PV → Option (List PV)) : Res PV := match p with
  | .ref k => match st[k]? with
    | some (.lst xs) => match f xs with
      | some ys => .ok .non (st.set k (.lst ys))
      | none => .bad
    | _ => .bad
  | _ => .bad
def mAppend (p : PV) (ps : List PV) (st : Sto) : Res PV := match ps with
  | [q] => onLst p st fun xs => if Nat.blt xs.length 16777216 = true then some (xs ++ [q]) else none
  | _ => .bad
theorem ok_append : MetOK J mAppend rAppend := by
  intro E H ρ st p ps x xs Q r hx hxs g
  unfold mAppend at g
  split at g
  · unfold onLst at g
    split at g
    · split at g
      · rename_i q _ k ys e1
        split at g
        · rename_i zs e2
          dsimp only at e2
          split at e2
          · rename_i hz
            cases e2
            obtain ⟨_, rfl⟩ := hx
            obtain ⟨y, rfl, hy⟩ := hxs.one
            obtain ⟨vs, h1, h2⟩ := r.lst e1
            refine ⟨_, vs, y, rfl, rfl, h1, by rw [← h2.length, sizeLine_eq]; exact Nat.le_of_ble_eq_true hz, ?_⟩
            exact g _ ρ _ (.setL r e1 rfl (h2.append ⟨y, [], rfl, hy, rfl⟩)) rfl
          · cases e2
        · exact g.elim
      · exact g.elim
    · exact g.elim
  · exact g.elim
def mExtend (p : PV) (ps : List PV) (st : Sto) : Res PV := match ps with
  | [.ref j] => match st[j]? with
    | some (.lst zs) => onLst p st fun xs => if szOk (xs.length + zs.length) = true then some (xs ++ zs) else none
    | _ => .bad
  | _ => .bad
theorem ok_extend : MetOK J mExtend rExtend := by
  intro E H ρ st p ps x xs Q r hx hxs g
  unfold mExtend at g
  split at g
  · split at g
    · rename_i j zs e0
      unfold onLst at g
      split at g
      · split at g
        · rename_i k ys e1
          split at g
          · rename_i us e2
            dsimp only at e2
            split at e2
            · rename_i hz
              cases e2
              obtain ⟨_, rfl⟩ := hx
              obtain ⟨y, rfl, _, rfl⟩ := hxs.one
              obtain ⟨vs, h1, h2⟩ := r.lst e1
              obtain ⟨ws, h3, h4⟩ := r.lst e0
              refine ⟨_, _, vs, ws, rfl, rfl, h1, h3, by rw [← h2.length, ← h4.length]; exact szOk_le hz, ?_⟩
              exact g _ ρ _ (.setL r e1 rfl (h2.append h4)) rfl
            · cases e2
          · exact g.elim
        · exact g.elim
      · exact g.elim
    · exact g.elim
  · exact g.elim
/-- sep.join(..) -/
def glue (sep : List Nat) : List (List Nat) → List Nat
  | [] => []
  | [x] => x
  | x :: y :: r => x ++ sep ++ glue sep (y :: r)
def mJoin (p : PV) (ps : List PV) (st : Sto) : Res PV := match p, ps with
  | .str a, [q] => match seqOf st q with
    | some ys => match strsOf ys with
      | some ss => if szOk ((ss.map List.length).sum + ss.length * a.length) = true then .ok (.str (glue a ss)) st else .bad
      | none => .bad
    | none => .bad
  | _, _ => .bad
theorem glue_ok (a : List Nat) : ∀ ss : List (List Nat), Txt.join (toS a) (ss.map toS) = toS (glue a ss)
  | [] => rfl
  | [x] => rfl
  | x :: y :: r => by
    have ih := glue_ok a (y :: r)
    have e : Txt.join (toS a) ((x :: y :: r).map toS) = toS x ++ toS a ++ Txt.join (toS a) ((y :: r).map toS) := by
      unfold Txt.join
      rw [StrLaws.glued_eq_join, StrLaws.glued_eq_join] <;> rfl
    rw [e, ih, ← str_app, ← str_app] <;> rfl
theorem ok_join : MetOK J mJoin (fun x xs H Q => ∃ a p, ∃ ys : List Str, x = .str a ∧ xs = [.ref p] ∧ (SqL J.W.K H p (ys.map V.str) ∨ SqT J.W.K H p (ys.map V.str)) ∧ (ys.map (·.length)).sum + ys.length * a.length ≤ 16777216 ∧ Q (.str (Txt.join a ys)) H) := by
  intro E H ρ st p ps x xs Q r hx hxs g
  unfold mJoin at g
  split at g
  · split at g
    · rename_i a q _ ys e1
      split at g
      · rename_i _ ss e2
        split at g
        · rename_i hz
          obtain ⟨y, rfl, hy⟩ := hxs.one
          obtain ⟨b, vs, rfl, hq, hv⟩ := seq_ok r hy e1
          rw [rvs_strs e2 hv] at hq
          refine ⟨toS a, b, ss.map toS, hx, rfl, hq, ?_, ?_⟩
          · have e3 : (ss.map toS).map (·.length) = ss.map List.length := by
              rw [List.map_map]
              exact congrArg (fun f => ss.map f) (funext fun z => str_len z)
            rw [e3, List.length_map, str_len]
            have := szOk_le hz
            rw [sizeLine_eq] at this
            exact this
          · rw [glue_ok]
            exact g H ρ _ (.refl r) rfl
        · exact g.elim
      · exact g.elim
    · exact g.elim
  · exact g.elim
/-- a.index(b), found -/
def mSIndex (p : PV) (ps : List PV) (st : Sto) : Res PV := match p, ps with
  | .str a, [.str b] => match Builtin.Str.occurrences (toS a) (toS b) 0 a.length 1 with
    | i :: _ => .ok (.int (i : Nat)) st
    | [] => .bad
  | _, _ => .bad
theorem ok_sindex : MetOK J mSIndex (fun x xs H Q => ∃ a b i rest, x = .str a ∧ xs = [.str b] ∧ Builtin.Str.occurrences a b 0 a.length 1 = i :: rest ∧ Q (.int (i : Nat)) H) := by
  intro E H ρ st p ps x xs Q r hx hxs g
  unfold mSIndex at g
  split at g
  · split at g
    · rename_i a b _ i rest e
      obtain ⟨y, rfl, hy⟩ := hxs.one
      exact ⟨toS a, toS b, i, rest, hx, by rw [hy], by rw [str_len]; exact e, g H ρ _ (.refl r) rfl⟩
    · exact g.elim
  · exact g.elim
/-- of a text alone -/
def mStr0 (f : Str → Str) (p : PV) (ps : List PV) (st : Sto) : Res PV := match p, ps with
  | .str a, [] => if szOk a.length = true then .ok (.str (ofS (f (toS a)))) st else .bad
  | _, _ => .bad
def mStrip := mStr0 Txt.strip
def mRstrip := mStr0 Txt.rstrip
theorem ok_str0 {f : Str → Str} : MetOK J (mStr0 f) (fun x xs H Q => ∃ a, x = .str a ∧ xs = [] ∧ a.length ≤ sizeLine ∧ Q (.str (f a)) H) := by
  intro E H ρ st p ps x xs Q r hx hxs g
  unfold mStr0 at g
  split at g
  · split at g
    · rename_i a hz
      exact ⟨toS a, hx, hxs.nil, by rw [str_len]; exact szOk_le hz, g H ρ _ (.refl r) rfl⟩
    · exact g.elim
  · exact g.elim
/-! ### operators, joined -/
theorem op_addA : OpR X (binaryOp .Add) (rAddA X.K) := OpR.or op_add (OpR.or op_add_ib (OpR.or op_add_str (OpR.or op_catA op_cat)))
theorem op_eqA (hu : X.A.units + 64 < cLine) : OpR X (compareOp .Eq) (rEqA X.K) := OpR.or op_eq (op_eqD hu)
theorem op_neA (hu : X.A.units + 64 < cLine) : OpR X (compareOp .NotEq) (rNeA X.K) := OpR.or op_ne (op_neD hu)
theorem op_ltA : OpR X (compareOp .Lt) (rCmpA (fun i j => decide (i < j)) (fun a b => decide (a < b))) := OpR.or op_lt op_lt_str
theorem op_leA : OpR X (compareOp .LtE) (rCmpA (fun i j => decide (i ≤ j)) (fun a b => !decide (b < a))) := OpR.or op_le op_le_str
theorem op_gtA : OpR X (compareOp .Gt) (rCmpA (fun i j => decide (j < i)) (fun a b => decide (b < a))) := OpR.or op_gt op_gt_str
theorem op_geA : OpR X (compareOp .GtE) (rCmpA (fun i j => decide (j ≤ i)) (fun a b => !decide (a < b))) := OpR.or op_ge op_ge_str
theorem op_mulA : OpR X (binaryOp .Mult) rMulA := OpR.or op_mulW op_rep
end
end Mi
end
section
set_option maxRecDepth 100000
set_option maxHeartbeats 4000000
namespace Mi
open PySem PySem.Spec PyProof.Rows L2
open Sem (wp)
/-! ### a dict beside tuples: never equal -/
theorem dict_eq_tup (l b : Addr) (dd dd2 : Option Addr) (dt : Data) (its2 : Array Value) (n2 : Nat) (sl sl2 : Array (Option Value)) :
    Meets (Builtin.«dict.__eq__» ⟨[.ref l, .ref b], []⟩) (fun _ R s => s.heap.get? l = some { cls := .type "dict", dict := dd, data := dt, slots := sl } ∧ s.heap.get? b = some { cls := .type "tuple", dict := dd2, data := .seq its2 n2, slots := sl2 } ∧
      R (.ok (.ret .notImplemented)) s) :=
  .of_wp fun prog w A R s h => by
    obtain ⟨h0, gens, drawn, toks, os⟩ := s
    obtain ⟨q1, q2, q3⟩ := h
    have sub1 := F.sub_tuple_dict
    have sub2 := F.sub_dict_tuple
    wp_walk using wpAny_loadPart' q1, wpAny_loadPart' q2
    exact ⟨_, rfl, q3⟩
theorem tup_eq_dict (l b : Addr) (dd dd2 : Option Addr) (dt : Data) (its2 : Array Value) (n2 : Nat) (sl sl2 : Array (Option Value)) :
    Meets (Builtin.«tuple.__eq__» ⟨[.ref b, .ref l], []⟩) (fun _ R s => s.heap.get? l = some { cls := .type "dict", dict := dd, data := dt, slots := sl } ∧ s.heap.get? b = some { cls := .type "tuple", dict := dd2, data := .seq its2 n2, slots := sl2 } ∧
      R (.ok (.ret .notImplemented)) s) :=
  .of_wp fun prog w A R s h => by
    obtain ⟨h0, gens, drawn, toks, os⟩ := s
    obtain ⟨q1, q2, q3⟩ := h
    have sub1 := F.sub_tuple_dict
    have sub2 := F.sub_dict_tuple
    wp_walk using wpAny_loadPart' q1, wpAny_loadPart' q2
    exact ⟨_, rfl, q3⟩
theorem eqAt_tup_dict {A : Around} {s : Shared} {b l : Addr} {its : Array Value} {o : Obj} (hb : s.heap.IsTuple b its) (hl : s.heap.get? l = some o) (hc : o.cls = .type "dict") (hu : A.units < cLine) : SeqAt.EqAt A s (.ref b) (.ref l) false := by
  obtain ⟨⟨c2, d2, t2, s2⟩, ho2, hc2, n2, hd2⟩ := hb
  obtain ⟨c1, d1, t1, s1⟩ := o
  simp only at hc hc2 hd2
  subst hc hc2 hd2
  have hne : b ≠ l := fun e => by
    rw [e, hl] at ho2
    exact absurd (congrArg Obj.cls (Option.some.inj ho2)) (by simp)
  refine .of_refs hne fun prog w E Q h => ?_
  exact SeqAt.rc_eq_decline_or (k := false) ⟨_, ho2, rfl⟩ ⟨_, hl, rfl⟩ (by decide) F.sub_dict_tuple F.slot_tuple_eq F.slot_dict_eq_refl
    (fun _ hq => call_meets F.slot_tuple_eq ⟨_, ho2, rfl⟩ F.entry_tuple_eq (F.args_tuple_eq_2 _ _) (tup_eq_dict l b d1 d2 t1 its n2 s1 s2) ⟨hl, ho2, hq⟩)
    (fun _ hq => call_meets F.slot_dict_eq_refl ⟨_, hl, rfl⟩ F.entry_dict_eq (F.args_dict_eq_2 _ _) (dict_eq_tup l b d1 d2 t1 its n2 s1 s2) ⟨hl, ho2, hq⟩)
    (fun _ hq => SeqAt.wpAny_isSame_ref_other' hne ho2 hl (by simp) hq) (.inr hu) h
/-- a dict in a tuple of tuples: it isn't there -/
def rInDict (K : PySem.W.Frag) : R2 := fun x y H Q => ∃ a b kvs vs, x = .ref a ∧ H a = some (.dK kvs) ∧ y = .ref b ∧ SqT K H b vs ∧ (∀ v ∈ vs, ∃ t us, v = .ref t ∧ SqT K H t us) ∧ Q (.bl false) H
theorem paired_back {α β : Type} {R : α → β → Prop} : ∀ {xs : List α} {ys : List β}, Paired R xs ys → ∀ y ∈ ys, ∃ x ∈ xs, R x y
  | _, _, .nil, x, h => by cases h
  | _, _, .cons r t, x, h => by
    rcases List.mem_cons.mp h with rfl | h
    · exact ⟨_, List.mem_cons_self, r⟩
    · obtain ⟨z, hz, q⟩ := paired_back t x h
      exact ⟨z, List.mem_cons_of_mem _ hz, q⟩
section
variable {X : Cx} {J : Jx}
theorem op_inDict (hu : X.A.units + 65 < cLine) : OpR X (compareOp .In) (rInDict X.K) := by
  intro pins s σ H x y v u Q I rx ry h
  obtain ⟨a, b, kvs, vs, rfl, ha, rfl, hb, hall, q⟩ := h
  cases rx
  cases ry
  obtain ⟨its, rv, tp, _⟩ := I.tuple hb
  obtain ⟨_, _, ws, _, o, es, ep, h1, h2, _⟩ := (show ObjOk X.prog X.w H s.heap a (.dK kvs) from I.hok a _ ha)
  have key : ∀ z ∈ its.toArray, SeqAt.EqAt X.A.in1 s z (.ref a) false := fun z hz => by
    obtain ⟨v, hv, r⟩ := paired_back rv z (by simpa using hz)
    obtain ⟨t, us, rfl, ht⟩ := hall v hv
    have r : z = Value.ref t := r
    subst r
    obtain ⟨its2, _, tp2, _⟩ := I.tuple ht
    exact eqAt_tup_dict (show s.heap.IsTuple t its2.toArray from tp2) h1 h2.1 (by show X.A.units + 1 < cLine; omega)
  refine SeqAt.in_tupleAt (fun _ => false) (show s.heap.IsTuple b its.toArray from tp) key ⟨.bl false, H, I, ?_, q⟩
  show Value.bool _ = Value.bool false
  congr 1
  generalize its.toArray = arr
  simp
def isD (st : Sto) : PV → Bool
  | .ref k => match st[k]? with
    | some (.dct _) => true
    | _ => false
  | _ => false
def allTup : List PV → Bool
  | [] => true
  | .tup _ :: r => allTup r
  | _ :: _ => false
/-- in, also of a dict beside tuples -/
def pInK (x y : PV) (st : Sto) : Res PV := match isD st x, y with
  | true, .tup ys => if allTup ys = true then .ok (.bl false) st else .bad
  | _, _ => pIn x y st
def rInK (K : PySem.W.Frag) : R2 := fun x y H Q => rInDict K x y H Q ∨ rInA K (fun b => b) x y H Q
theorem op_inK (hu : X.A.units + 65 < cLine) : OpR X (compareOp .In) (rInK X.K) := OpR.or (op_inDict hu) (op_inA hu)
theorem rvs_tups {W : Wd} {H : Hp} {ρ : Nat → Addr} {n : Nat} : ∀ {ps : List PV} {vs : List V}, allTup ps = true → RVs W H ρ n ps vs → ∀ v ∈ vs, ∃ t us, v = V.ref t ∧ SqT W.K H t us
  | [], vs, _, h, v, hv => by
    have h : vs = [] := h
    rw [h] at hv
    cases hv
  | p :: ps, vs, e, ⟨w, r, e2, h1, h2⟩, v, hv => by
    subst e2
    cases p <;> simp only [allTup] at e <;> try (cases e; done)
    obtain ⟨t, us, e3, q, _⟩ := h1
    rcases List.mem_cons.mp hv with rfl | hv
    · exact ⟨t, us, e3, q⟩
    · exact rvs_tups e h2 v hv
theorem ok_inK : OpOK J pInK (rInK J.W.K) := by
  intro E H ρ st p p2 x y Q r hx hy g
  unfold pInK at g
  split at g
  · rename_i ys hd
    split at g
    · rename_i hall
      unfold isD at hd
      split at hd
      · rename_i k
        split at hd
        · rename_i kvs e1
          obtain ⟨_, rfl⟩ := hx
          obtain ⟨vs, h1, _⟩ := r.obj k _ e1
          obtain ⟨b, ws, rfl, hq, hv⟩ := hy
          exact .inl ⟨_, b, vs, ws, rfl, h1, rfl, hq, rvs_tups hall hv, g H ρ _ (.refl r) rfl⟩
        · cases hd
      · cases hd
    · exact g.elim
  · exact .inr (ok_in E H ρ st p _ x y Q r hx hy g)
/-- {} -/
def dDict0 : DE := fun _ _ st => .ok (.ref st.length) (st ++ [.dct []])
theorem xe_dict0 {pos : Pos} : PE X (.Dict [] [] pos) (rdE J dDict0) := PE.imp pe_dnewK fun σ H Q h => by
  obtain ⟨ρ, th, env, st, S, g⟩ := h
  exact fun p hp => g _ _ _ (.alloc (so := .dct []) S.rs hp ⟨[], upd_same, rfl⟩ rfl) ⟨by simp, by rw [put_same]⟩
end
end Mi
end
section
set_option maxRecDepth 100000
set_option maxHeartbeats 4000000
namespace Mi
open PySem PySem.Spec PyProof.Rows L2
/-! ### what the printed texts use -/
/-- the world of a law's call -/
abbrev W0 (K : PySem.W.Frag) : Wd := ⟨K, fun _ => none, fun _ => none, 0, []⟩
/-- the law's def answers True at each script -/
def Plain (F : Fn) : Prop := ∀ ns : List Int, ns.length ≤ 63 → (∀ z ∈ ns, Builtin.Int.intBits z ≤ 1048576) → ∃ st, F [.ref 0] [.fz (ns.map .int)] = .ok (.bl true) st
theorem RSt.fz0 {K : PySem.W.Frag} {H : Hp} {a : Addr} {ns : List Int} (h : FzL K H a (ns.map V.int)) : RSt (W0 K) H (fun _ => a) [.fz (ns.map .int)] := by
  refine ⟨fun i j o u ei _ m _ _ => ?_, fun i o e => ?_, fun p hp => nomatch hp⟩
  · cases i with
    | zero =>
      cases ei
      cases m
    | succ i => simp at ei
  · cases i with
    | zero =>
      cases e
      exact ⟨_, h, rvs_of_ints ns⟩
    | succ i => simp at e
theorem spN_law {K : PySem.W.Frag} {F : Fn} (PL : Plain F) {H : Hp} {a : Addr} {ns : List Int} (hl : ns.length ≤ 63) (hb : ∀ z ∈ ns, Builtin.Int.intBits z ≤ 1048576) (h : FzL K H a (ns.map V.int)) : spN (W0 K) 1 F [.ref a] H (fun v _ => v = .bl true) fun _ _ _ => False := by
  obtain ⟨st, e⟩ := PL ns hl hb
  refine ⟨fun _ => a, [.ref 0], [.fz (ns.map .int)], rfl, RSt.fz0 h, ⟨_, _, rfl, ⟨Nat.succ_pos _, rfl⟩, rfl⟩, ?_⟩
  rw [e]
  exact fun H' ρ' x _ hx => hx
theorem lawG0 {l : PySem.W.OpenLaw} {w : World} {K : PySem.W.Frag} {k : Nat} {x : Str} {mg : Str → Option Value} {f : Addr} {h : Heap} {fd : FuncData} {F : Fn} (PL : Plain F) (hb : ∀ (s : Shared) (u : Value), BindsTo s fd ⟨[u], []⟩ [(x, u)])
    (hF : ∀ base : Heap, K.In base → base.Ns mainGlobals mg → FnG l.prog w K mg base k f fd [x] (spN (W0 K) 1 F)) : LawG l w K k 63 x mg f h :=
  ⟨fd, [], _, fun _ hp => (nomatch hp), fun _ hp => (nomatch hp), fun _ hp => (nomatch hp), hb, fun H a ns h1 h2 _ h3 => spN_law PL h1 h2 h3, fun base h1 h2 _ => hF base h1 h2⟩
section
variable {X : Cx} {J : Jx} {x : Str} {pos : Pos}
theorem gl_of (h : X.env.kindOf x = some .globalImplicit) : Gl X x := h
theorem xe_gint {i : Int} (hg : Gl X x) (hm : ∃ t, X.mg x = some (.int i t)) (hd : (x == ("__debug__" : Str)) = false) : PE X (.Name x pos) (rdE J (dC (.int i))) := by
  obtain ⟨t, hm⟩ := hm
  exact xe_glob (p := .int i) (v := .int i) hg hm ⟨t, rfl⟩ (fun _ _ _ => rfl) hd
theorem xe_gstr {s : List Nat} {z : Str} (hz : z = toS s) (hg : Gl X x) (hm : ∃ t, X.mg x = some (.str z t)) (hd : (x == ("__debug__" : Str)) = false) : PE X (.Name x pos) (rdE J (dC (.str s))) := by
  obtain ⟨t, hm⟩ := hm
  exact xe_glob (p := .str s) (v := .str (toS s)) hg hm ⟨t, by rw [hz]⟩ (fun _ _ _ => rfl) hd
theorem u65 {k : Nat} {A : Around} (r : Room k A) : A.units + 65 < cLine := by
  have := r.un
  omega
theorem u66 {k : Nat} {A : Around} (r : Room k A) : A.units + 66 < cLine := by
  have := r.un
  omega
/-- a comprehension's parts, with the context's own facts at hand -/
theorem xc_lc {elt tg iter : Expr} {ifs : List Expr} {scope : Scope} {own : List (Str × Nat)} {pos : Pos} {di : DI} {t : Tg} {ts : DB} {el : DE} (J2 : XK2 X J) (hi : PI X tg iter (rdI J di)) (ok : blkC X.N X.env.scope scope own = true) (hsl : (t.slots.all fun i => (own.map (·.2)).contains i) = true)
    (hg : ∀ (s : Shared) (H : Hp) (C : Addr) (cl : List (Str × Addr)) (fp : List Addr), XK2 (X.blk s H scope (compEnvC scope cl C X.env) fp) J.blk → PG (X.blk s H scope (compEnvC scope cl C X.env) fp) tg (Tg.rd X.K t))
    (ht : ∀ (s : Shared) (H : Hp) (C : Addr) (cl : List (Str × Addr)) (fp : List Addr), XK2 (X.blk s H scope (compEnvC scope cl C X.env) fp) J.blk → PTs (X.blk s H scope (compEnvC scope cl C X.env) fp) ifs (rdB J.blk ts))
    (he : ∀ (s : Shared) (H : Hp) (C : Addr) (cl : List (Str × Addr)) (fp : List Addr), XK2 (X.blk s H scope (compEnvC scope cl C X.env) fp) J.blk → PE (X.blk s H scope (compEnvC scope cl C X.env) fp) elt (rdE J.blk el)) (hs : ∀ x, foldedSetIterable iter X.env x = pure x := by intro _; rfl) :
    PE X (.ListComp elt [⟨tg, iter, ifs, 0⟩] scope pos) (rdE J (dLc di t ts el (own.map (·.2)))) :=
  xe_lc J2 hi ok hsl (fun s H C cl fp => hg s H C cl fp (J2.blk _ _ _ _ _)) (fun s H C cl fp => ht s H C cl fp (J2.blk _ _ _ _ _)) (fun s H C cl fp => he s H C cl fp (J2.blk _ _ _ _ _)) hs
theorem yc_setLc {i : Nat} {y : Str} {py : Pos} {elt tg iter : Expr} {ifs : List Expr} {scope : Scope} {own : List (Str × Nat)} {pos spos : Pos} {di : DI} {t : Tg} {ts : DB} {el : DE} (J2 : XK2 X J) (hy : X.N[i]? = some y) (hyl : X.env.scope.names.lookup y = some .local)
    (hsw : swapsWith (.ListComp elt [⟨tg, iter, ifs, 0⟩] scope pos) (some (.Name y py)) spos.line X.env = pure true) (hi : PI X tg iter (rdI J di)) (ok : blkC X.N X.env.scope scope own = true) (hsl : (t.slots.all fun i => (own.map (·.2)).contains i) = true)
    (hg : ∀ (s : Shared) (H : Hp) (C : Addr) (cl : List (Str × Addr)) (fp : List Addr), XK2 (X.blk s H scope (compEnvC scope cl C X.env) fp) J.blk → PG (X.blk s H scope (compEnvC scope cl C X.env) fp) tg (Tg.rd X.K t))
    (ht : ∀ (s : Shared) (H : Hp) (C : Addr) (cl : List (Str × Addr)) (fp : List Addr), XK2 (X.blk s H scope (compEnvC scope cl C X.env) fp) J.blk → PTs (X.blk s H scope (compEnvC scope cl C X.env) fp) ifs (rdB J.blk ts))
    (he : ∀ (s : Shared) (H : Hp) (C : Addr) (cl : List (Str × Addr)) (fp : List Addr), XK2 (X.blk s H scope (compEnvC scope cl C X.env) fp) J.blk → PE (X.blk s H scope (compEnvC scope cl C X.env) fp) elt (rdE J.blk el)) (hs : ∀ x, foldedSetIterable iter X.env x = pure x := by intro _; rfl) :
    PS X (.Assign [.Name y py] (.ListComp elt [⟨tg, iter, ifs, 0⟩] scope pos) spos) (rdS J (dSet (.nm i) (dLc di t ts el (own.map (·.2))))) :=
  ys_setLc J2 hy hyl hsw hi ok hsl (fun s H C cl fp => hg s H C cl fp (J2.blk _ _ _ _ _)) (fun s H C cl fp => ht s H C cl fp (J2.blk _ _ _ _ _)) (fun s H C cl fp => he s H C cl fp (J2.blk _ _ _ _ _)) hs
end
end Mi
end
section
set_option maxRecDepth 100000
set_option maxHeartbeats 4000000
namespace Mi
open PySem PySem.Spec PyProof.Rows L2
/-! ### what is left behind may be forgotten -/
mutual
def clV (n : Nat) : PV → Bool
  | .tup xs => clVs n xs
  | .ref k => Nat.blt k n
  | .non => true
  | .bl _ => true
  | .int _ => true
  | .str _ => true
  | .fn _ => true
  | .thk => true
def clVs (n : Nat) : List PV → Bool
  | [] => true
  | p :: ps => clV n p && clVs n ps
end
def clKs (n : Nat) : List (Key × PV) → Bool
  | [] => true
  | (_, p) :: ps => clV n p && clKs n ps
def clO (n : Nat) : SO → Bool
  | .lst xs => clVs n xs
  | .dct kvs => clKs n kvs
  | .fz xs => clVs n xs
def clS (n : Nat) (st : Sto) : Bool := st.all (clO n)
def clE (n : Nat) (e : Ex) : Bool := match e.fld with
  | some (_, p) => clV n p
  | none => true
section
variable {W : Wd} {H : Hp} {ρ : Nat → Addr} {n n' : Nat}
mutual
theorem RV.clo : ∀ (p : PV) (v : V), RV W H ρ n p v → clV n p = true
  | .tup xs, _, ⟨_, vs, _, _, h⟩ => RVs.clo xs vs h
  | .ref k, _, ⟨h, _⟩ => Nat.ble_eq_true_of_le h
  | .non, _, _ => rfl
  | .bl _, _, _ => rfl
  | .int _, _, _ => rfl
  | .str _, _, _ => rfl
  | .fn _, _, _ => rfl
  | .thk, _, _ => rfl
theorem RVs.clo : ∀ (ps : List PV) (vs : List V), RVs W H ρ n ps vs → clVs n ps = true
  | [], _, _ => rfl
  | p :: ps, _, ⟨v, r, _, h, t⟩ => Bool.and_eq_true_iff.mpr ⟨RV.clo p v h, RVs.clo ps r t⟩
end
mutual
theorem RV.cut : ∀ (p : PV) (v : V), RV W H ρ n' p v → clV n p = true → RV W H ρ n p v
  | .tup xs, _, ⟨a, vs, e, q, h⟩, c => ⟨a, vs, e, q, RVs.cut xs vs h c⟩
  | .ref k, _, ⟨_, e⟩, c => ⟨Nat.le_of_ble_eq_true c, e⟩
  | .non, _, h, _ => h
  | .bl _, _, h, _ => h
  | .int _, _, h, _ => h
  | .str _, _, h, _ => h
  | .fn _, _, h, _ => h
  | .thk, _, h, _ => h
theorem RVs.cut : ∀ (ps : List PV) (vs : List V), RVs W H ρ n' ps vs → clVs n ps = true → RVs W H ρ n ps vs
  | [], _, h, _ => h
  | p :: ps, _, ⟨v, r, e, h, t⟩, c => ⟨v, r, e, RV.cut p v h (Bool.and_eq_true_iff.mp c).1, RVs.cut ps r t (Bool.and_eq_true_iff.mp c).2⟩
end
theorem RKs.clo : ∀ (ps : List (Key × PV)) (vs : List (Key × V)), RKs W H ρ n ps vs → clKs n ps = true
  | [], _, _ => rfl
  | (k, p) :: ps, _, ⟨v, r, _, h, t⟩ => Bool.and_eq_true_iff.mpr ⟨RV.clo p v h, RKs.clo ps r t⟩
theorem RKs.cut : ∀ (ps : List (Key × PV)) (vs : List (Key × V)), RKs W H ρ n' ps vs → clKs n ps = true → RKs W H ρ n ps vs
  | [], _, h, _ => h
  | (k, p) :: ps, _, ⟨v, r, e, h, t⟩, c => ⟨v, r, e, RV.cut p v h (Bool.and_eq_true_iff.mp c).1, RKs.cut ps r t (Bool.and_eq_true_iff.mp c).2⟩
theorem RO.clo {o : SO} {a : Addr} (h : RO W H ρ n o a) : clO n o = true := by
  cases o with
  | lst xs =>
    obtain ⟨vs, _, h⟩ := h
    exact h.clo
  | dct xs =>
    obtain ⟨vs, _, h⟩ := h
    exact RKs.clo _ _ h
  | fz xs =>
    obtain ⟨vs, _, h⟩ := h
    exact h.clo
theorem RO.cut {o : SO} {a : Addr} (h : RO W H ρ n' o a) (c : clO n o = true) : RO W H ρ n o a := by
  cases o with
  | lst xs =>
    obtain ⟨vs, q, h⟩ := h
    exact ⟨vs, q, RVs.cut _ _ h c⟩
  | dct xs =>
    obtain ⟨vs, q, h⟩ := h
    exact ⟨vs, q, RKs.cut _ _ h c⟩
  | fz xs =>
    obtain ⟨vs, q, h⟩ := h
    exact ⟨vs, q, RVs.cut _ _ h c⟩
theorem RSt.clo {st : Sto} (r : RSt W H ρ st) : clS st.length st = true := by
  unfold clS
  refine List.all_eq_true.mpr fun o ho => ?_
  obtain ⟨i, hi, e⟩ := List.mem_iff_getElem.mp ho
  exact (r.obj i o (by rw [List.getElem?_eq_getElem hi, e])).clo
theorem RSt.cut {s g : Sto} (r : RSt W H ρ (s ++ g)) (c : clS s.length s = true) : RSt W H ρ s := by
  have pre : ∀ (i : Nat) (o : SO), s[i]? = some o → (s ++ g)[i]? = some o := fun i o e => by
    rw [List.getElem?_append_left (List.getElem?_eq_some_iff.mp e).1]
    exact e
  refine ⟨fun i j o u ei ej => r.inj i j o u (pre i o ei) (pre j u ej), fun i o e => ?_, r.tab⟩
  refine (r.obj i o (pre i o e)).cut ?_
  unfold clS at c
  exact List.all_eq_true.mp c o (List.mem_of_getElem? e)
theorem Stp.cut {H' : Hp} {ρ' : Nat → Addr} {s g : Sto} (r : Stp W H ρ n H' ρ' (s ++ g)) (c : clS s.length s = true) (h : n ≤ s.length) : Stp W H ρ n H' ρ' s := ⟨r.rs.cut c, r.ext, r.agr, h⟩
end
/-- r says as much as r', and what r' leaves behind is forgotten -/
def LeR (n : Nat) : Res PV → Res PV → Prop
  | .bad, _ => True
  | .ok v s, r => ∃ g, r = .ok v (s ++ g) ∧ clV s.length v = true ∧ clS s.length s = true ∧ n ≤ s.length
  | .exc e s, r => ∃ g, r = .exc e (s ++ g) ∧ clE s.length e = true ∧ clS s.length s = true ∧ n ≤ s.length
theorem Ref.of {F G : Fn} (h : ∀ (ps : List PV) (st : Sto), clVs st.length ps = true → clS st.length st = true → LeR st.length (F ps st) (G ps st)) : Ref F G := by
  intro W E H ρ st ps vs Q r hp g
  have le := h ps st hp.clo r.clo
  cases e : F ps st with
  | bad =>
    rw [e] at g
    exact g.elim
  | ok v s =>
    rw [e] at g le
    obtain ⟨gs, e2, c1, c2, c3⟩ := le
    rw [e2]
    exact fun H' ρ' x s' hx => g H' ρ' x (s'.cut c2 c3) (RV.cut _ _ hx c1)
  | exc x s =>
    rw [e] at g le
    obtain ⟨gs, e2, c1, c2, c3⟩ := le
    rw [e2]
    refine fun H' ρ' c d s' hx => g H' ρ' c d (s'.cut c2 c3) ⟨hx.1, ?_⟩
    have h2 := hx.2
    unfold clE at c1
    cases ef : x.fld with
    | none =>
      rw [ef] at h2
      exact h2
    | some q =>
      rw [ef] at h2 c1
      obtain ⟨f, p⟩ := q
      obtain ⟨dd, v, a1, a2, a3⟩ := h2
      exact ⟨dd, v, a1, a2, RV.cut _ _ a3 c1⟩
theorem Ref.trans {F G K : Fn} (a : Ref F G) (b : Ref G K) : Ref F K := fun W E H ρ st ps vs Q r hp g => b W E H ρ st ps vs Q r hp (a W E H ρ st ps vs Q r hp g)
/-- forgetting by itself -/
def gcR (n : Nat) (r : Res PV) : Res PV := match r with
  | .ok v s => if (clV n v && clS n (s.take n) && Nat.ble n s.length) = true then .ok v (s.take n) else .ok v s
  | .exc e s => if (clE n e && clS n (s.take n) && Nat.ble n s.length) = true then .exc e (s.take n) else .exc e s
  | .bad => .bad
def gcF (F : Fn) : Fn := fun ps st => gcR st.length (F ps st)
theorem gcF_ref (F : Fn) : Ref (gcF F) F := by
  intro W E H ρ st ps vs Q r hp g
  unfold gcF at g
  cases e : F ps st with
  | bad =>
    rw [e] at g
    exact g
  | ok v s =>
    rw [e] at g
    unfold gcR at g
    dsimp only at g
    split at g
    · rename_i h
      rw [Bool.and_eq_true, Bool.and_eq_true] at h
      obtain ⟨⟨h1, h2⟩, h3⟩ := h
      have hl : (s.take st.length).length = st.length := by
        rw [List.length_take]
        exact Nat.min_eq_left (Nat.le_of_ble_eq_true h3)
      refine fun H' ρ' x s' hx => g H' ρ' x (Stp.cut (g := s.drop st.length) ?_ ?_ ?_) ?_
      · rw [List.take_append_drop]
        exact s'
      · rw [hl]
        exact h2
      · rw [hl]
        exact Nat.le_refl _
      · rw [hl]
        exact RV.cut _ _ hx h1
    · exact g
  | exc x s =>
    rw [e] at g
    unfold gcR at g
    dsimp only at g
    split at g
    · rename_i h
      rw [Bool.and_eq_true, Bool.and_eq_true] at h
      obtain ⟨⟨h1, h2⟩, h3⟩ := h
      have hl : (s.take st.length).length = st.length := by
        rw [List.length_take]
        exact Nat.min_eq_left (Nat.le_of_ble_eq_true h3)
      refine fun H' ρ' c d s' hx => g H' ρ' c d (Stp.cut (g := s.drop st.length) ?_ ?_ ?_) ?_
      · rw [List.take_append_drop]
        exact s'
      · rw [hl]
        exact h2
      · rw [hl]
        exact Nat.le_refl _
      · refine ⟨hx.1, ?_⟩
        have h4 := hx.2
        unfold clE at h1
        rw [hl]
        cases ef : x.fld with
        | none =>
          rw [ef] at h4
          exact h4
        | some q =>
          rw [ef] at h4 h1
          obtain ⟨f, p⟩ := q
          obtain ⟨dd, v, a1, a2, a3⟩ := h4
          exact ⟨dd, v, a1, a2, RV.cut _ _ a3 h1⟩
    · exact g
end Mi
end
section
set_option maxRecDepth 100000
set_option maxHeartbeats 4000000
namespace Mi
open PySem PySem.Spec PyProof.Rows L2
/-! ### steps, told plainly -/
section
variable {α β : Type}
theorem b_ok (a : α) (st : Sto) (f : α → Sto → Res β) : Res.bind (.ok a st) f = f a st := rfl
theorem b_bad (f : α → Sto → Res β) : Res.bind .bad f = .bad := rfl
theorem s_ok (env : Env) (a : α) (st : Sto) (f : α → Sto → RS) : Res.s env (.ok a st) f = f a st := rfl
theorem f_rt (v : PV) (st : Sto) : RS.fin (.rt v st) = .ok v st := rfl
theorem f_nx (env : Env) (st : Sto) : RS.fin (.nx env st) = .ok .non st := rfl
theorem e_len {s : List Nat} (st : Sto) (h : szOk s.length = true) : fLen [.str s] st = .ok (.int s.length) st := by
  show (if szOk s.length = true then _ else _) = _
  rw [if_pos h]
theorem e_le (i j : Int) (st : Sto) : pLe (.int i) (.int j) st = .ok (.bl (decide (i ≤ j))) st := rfl
theorem e_lt (i j : Int) (st : Sto) : pLt (.int i) (.int j) st = .ok (.bl (decide (i < j))) st := rfl
theorem e_ge (i j : Int) (st : Sto) : pGe (.int i) (.int j) st = .ok (.bl (decide (j ≤ i))) st := rfl
theorem e_gt (i j : Int) (st : Sto) : pGt (.int i) (.int j) st = .ok (.bl (decide (j < i))) st := rfl
theorem e_add (i j : Int) (st : Sto) : pAdd (.int i) (.int j) st = .ok (.int (i + j)) st := rfl
theorem e_sub (i j : Int) (st : Sto) : pSub (.int i) (.int j) st = .ok (.int (i - j)) st := rfl
theorem e_mul {i j : Int} (st : Sto) (h : cMul i j = true) : pMul (.int i) (.int j) st = .ok (.int (i * j)) st := by
  show (if cMul i j = true then _ else _) = _
  rw [if_pos h]
theorem e_fdiv {i j : Int} (st : Sto) (h : cDiv i j = true) : pFdiv (.int i) (.int j) st = .ok (.int (i / j)) st := by
  show (if cDiv i j = true then _ else _) = _
  rw [if_pos h]
theorem e_mod {i j : Int} (st : Sto) (h : 0 < j) : pMod (.int i) (.int j) st = .ok (.int (i % j)) st := by
  show (if cPos i j = true then _ else _) = _
  rw [if_pos (show cPos i j = true from decide_eq_true h)]
theorem e_all {k : Nat} {st : Sto} {ys : List PV} {bs : List Bool} (h1 : lstAt st k = some ys) (h2 : blsOf ys = some bs) : fAll [.ref k] st = .ok (.bl (bs.all id)) st := by
  unfold fAll fBls
  dsimp only
  rw [h1]
  dsimp only
  rw [h2]
theorem bls_map (f : α → Bool) : ∀ xs : List α, blsOf (xs.map fun x => .bl (f x)) = some (xs.map f)
  | [] => rfl
  | x :: xs => by
    rw [List.map_cons]
    unfold blsOf
    rw [bls_map f xs]
    rfl
theorem get_add (s r : Sto) (i : Nat) : (s ++ r)[s.length + i]? = r[i]? := by
  rw [List.getElem?_append_right (Nat.le_add_right _ _), Nat.add_sub_cancel_left]
theorem get_end0 (s r : Sto) : (s ++ r)[s.length]? = r[0]? := get_add s r 0
theorem set_add (s r : Sto) (i : Nat) (o : SO) : (s ++ r).set (s.length + i) o = s ++ r.set i o := by
  rw [List.set_append_right _ _ (Nat.le_add_right _ _), Nat.add_sub_cancel_left]
theorem set_end0 (s r : Sto) (o : SO) : (s ++ r).set s.length o = s ++ r.set 0 o := set_add s r 0 o
theorem lst_of {s : Sto} {k : Nat} {xs : List PV} (h : s[k]? = some (.lst xs)) : lstAt s k = some xs := by
  unfold lstAt
  rw [h]
theorem e_lenR {s : Sto} {k : Nat} {xs : List PV} (h : lstAt s k = some xs) : fLen [.ref k] s = .ok (.int xs.length) s := by
  show (match lstAt s k with
    | some ys => Res.ok (PV.int ys.length) s
    | none => .bad) = _
  rw [h]
theorem e_isLst {s : Sto} {k : Nat} {xs : List PV} (h : lstAt s k = some xs) : isLst (.ref k) s = true := by
  show (lstAt s k).isSome = true
  rw [h]
  rfl
theorem e_rep {s : Sto} {k : Nat} {xs : List PV} {n : Int} (h : s[k]? = some (.lst xs)) (hn : (decide (-(2 ^ 63) ≤ n) && decide (n < 2 ^ 63) && szOk (xs.length * n.toNat)) = true) : pMul (.ref k) (.int n) s = .ok (.ref s.length) (s ++ [.lst (List.replicate n.toNat xs).flatten]) := by
  show (match s[k]? with
    | some (.lst xs) => if (decide (-(2 ^ 63) ≤ n) && decide (n < 2 ^ 63) && szOk (xs.length * n.toNat)) = true then Res.ok (PV.ref s.length) (s ++ [SO.lst (List.replicate n.toNat xs).flatten]) else .bad
    | _ => .bad) = _
  rw [h]
  dsimp only
  rw [if_pos hn]
theorem e_extend {s : Sto} {a b : Nat} {xs zs : List PV} (ha : s[a]? = some (.lst xs)) (hb : s[b]? = some (.lst zs)) (hz : szOk (xs.length + zs.length) = true) : mExtend (.ref a) [.ref b] s = .ok .non (s.set a (.lst (xs ++ zs))) := by
  unfold mExtend
  dsimp only
  rw [hb]
  dsimp only
  unfold onLst
  dsimp only
  rw [ha]
  dsimp only
  rw [if_pos hz]
theorem e_ixR {s : Sto} {k : Nat} {xs : List PV} {i : Int} {v : PV} (h : lstAt s k = some xs) (hi : atI xs i = some v) : pIx (.ref k) (.int i) s = .ok v s := by
  show (match lstAt s k with
    | some xs => match atI xs i with
      | some v => Res.ok v s
      | none => .bad
    | none => .bad) = _
  rw [h]
  dsimp only
  rw [hi]
theorem e_ixS {s : Sto} {x : List Nat} {i : Int} {c : Nat} (hz : szOk x.length = true) (hi : atI x i = some c) : pIx (.str x) (.int i) s = .ok (.str [c]) s := by
  show (if szOk x.length = true then (match atI x i with
    | some c => Res.ok (PV.str [c]) s
    | none => .bad) else .bad) = _
  rw [if_pos hz, hi]
theorem e_append {s : Sto} {a : Nat} {xs : List PV} {p : PV} (ha : s[a]? = some (.lst xs)) (hz : xs.length < 16777216) : mAppend (.ref a) [p] s = .ok .non (s.set a (.lst (xs ++ [p]))) := by
  unfold mAppend
  dsimp only
  unfold onLst
  dsimp only
  rw [ha]
  dsimp only
  have hb : Nat.blt xs.length 16777216 = true := Nat.ble_eq_true_of_le hz
  rw [if_pos hb]
theorem lst_end (s : Sto) (xs : List PV) (r : Sto) : lstAt (s ++ .lst xs :: r) s.length = some xs := by
  unfold lstAt
  rw [List.getElem?_append_right (Nat.le_refl _), Nat.sub_self]
  rfl
end
/-! ### comprehensions and loops, told plainly -/
theorem get_end (s : Sto) (a : SO) (r : Sto) : (s ++ a :: r)[s.length]? = some a := by
  rw [List.getElem?_append_right (Nat.le_refl _), Nat.sub_self]
  rfl
theorem set_end (s : Sto) (a b : SO) (r : Sto) : (s ++ a :: r).set s.length b = s ++ b :: r := by
  rw [List.set_append_right _ _ (Nat.le_refl _), Nat.sub_self]
  rfl
/-- elements that leave the store alone -/
theorem lcV_map {i : Nat} {ts : DB} {el : DE} {p : PV → Bool} {h : PV → PV} {own : List Nat} {th : Th} {env : Env} {s : Sto} : ∀ (xs acc : List PV), acc.length + xs.length ≤ 16777216 → (∀ x ∈ xs, ∀ acc', ts th (env.set i (some x)) (s ++ [.lst acc']) = .ok (p x) (s ++ [.lst acc'])) →
    (∀ x ∈ xs, p x = true → ∀ acc', el th (env.set i (some x)) (s ++ [.lst acc']) = .ok (h x) (s ++ [.lst acc'])) →
    lcV (.nm i) ts el own th s.length xs env (s ++ [.lst acc]) = .ok () (s ++ [.lst (acc ++ (xs.filter p).map h)])
  | [], acc, _, _, _ => by
    simp [lcV]
  | x :: xs, acc, hz, ht, he => by
    have h1 := ht x List.mem_cons_self acc
    rw [List.length_cons] at hz
    unfold lcV
    simp only [Tg.set]
    rw [h1]
    dsimp only [Res.bind]
    cases hp : p x with
    | true =>
      rw [he x List.mem_cons_self hp acc]
      dsimp only
      rw [get_end]
      dsimp only
      have hb : Nat.blt acc.length 16777216 = true := Nat.ble_eq_true_of_le (by omega)
      rw [if_pos hb, set_end, lcV_map xs (acc ++ [h x]) (by rw [List.length_append, List.length_singleton]; omega) (fun y hy => ht y (List.mem_cons_of_mem _ hy)) (fun y hy => he y (List.mem_cons_of_mem _ hy)), List.filter_cons_of_pos hp, List.map_cons, List.append_assoc]
      rfl
    | false =>
      dsimp only
      rw [lcV_map xs acc (by omega) (fun y hy => ht y (List.mem_cons_of_mem _ hy)) (fun y hy => he y (List.mem_cons_of_mem _ hy)), List.filter_cons_of_neg (by rw [hp]; decide)]
/-- the same over a list of the store -/
theorem lcL_map {i : Nat} {ts : DB} {el : DE} {p : PV → Bool} {h : PV → PV} {own : List Nat} {th : Th} {env : Env} {s : Sto} {k : Nat} {ys : List PV} (hk : lstAt s k = some ys) : ∀ (xs acc : List PV) (j : Nat) (m : Nat), ys.drop j = xs → xs.length < m → acc.length + xs.length ≤ 16777216 →
    (∀ x ∈ xs, ∀ acc', ts th (env.set i (some x)) (s ++ [.lst acc']) = .ok (p x) (s ++ [.lst acc'])) → (∀ x ∈ xs, p x = true → ∀ acc', el th (env.set i (some x)) (s ++ [.lst acc']) = .ok (h x) (s ++ [.lst acc'])) →
    lcL (.nm i) ts el own th s.length (lstG k) m j env (s ++ [.lst acc]) = .ok () (s ++ [.lst (acc ++ (xs.filter p).map h)]) := by
  have hkl : k < s.length := by
    unfold lstAt at hk
    by_cases hl : k < s.length
    · exact hl
    · rw [List.getElem?_eq_none (Nat.le_of_not_lt hl)] at hk
      cases hk
  have hg : ∀ j acc, lstG k j (s ++ [SO.lst acc]) = some ys[j]? := fun j acc => by
    unfold lstG lstAt
    rw [List.getElem?_append_left hkl]
    unfold lstAt at hk
    rw [hk]
  intro xs
  induction xs with
  | nil =>
    intro acc j m hd hm hz ht he
    cases m with
    | zero => cases hm
    | succ m =>
      unfold lcL
      rw [hg]
      have : ys[j]? = none := List.getElem?_eq_none (List.drop_eq_nil_iff.mp hd)
      rw [this]
      simp
  | cons x xs ih =>
    intro acc j m hd hm hz ht he
    cases m with
    | zero => cases hm
    | succ m =>
      rw [List.length_cons] at hz hm
      obtain ⟨e1, e2⟩ := drop_get hd
      have h1 := ht x List.mem_cons_self acc
      unfold lcL
      rw [hg, e1]
      simp only [Tg.set]
      rw [h1]
      dsimp only [Res.bind]
      cases hp : p x with
      | true =>
        rw [he x List.mem_cons_self hp acc]
        dsimp only
        rw [get_end]
        dsimp only
        have hb : Nat.blt acc.length 16777216 = true := Nat.ble_eq_true_of_le (by omega)
        rw [if_pos hb, set_end, ih (acc ++ [h x]) (j + 1) m e2 (by omega) (by rw [List.length_append, List.length_singleton]; omega) (fun y hy => ht y (List.mem_cons_of_mem _ hy)) (fun y hy => he y (List.mem_cons_of_mem _ hy)), List.filter_cons_of_pos hp, List.map_cons, List.append_assoc]
        rfl
      | false =>
        dsimp only
        rw [ih acc (j + 1) m e2 (by omega) (by omega) (fun y hy => ht y (List.mem_cons_of_mem _ hy)) (fun y hy => he y (List.mem_cons_of_mem _ hy)), List.filter_cons_of_neg (by rw [hp]; decide)]
/-- a comprehension over values -/
theorem dLc_vals {it : DI} {i : Nat} {ts : DB} {el : DE} {p : PV → Bool} {h : PV → PV} {own : List Nat} {th : Th} {env : Env} {st s : Sto} {xs : List PV} (hit : it th env st = .ok (.vals xs) s) (hz : xs.length ≤ 16777216) (ht : ∀ x ∈ xs, ∀ acc', ts th ((wipeE env own).set i (some x)) (s ++ [.lst acc']) = .ok (p x) (s ++ [.lst acc']))
    (he : ∀ x ∈ xs, p x = true → ∀ acc', el th ((wipeE env own).set i (some x)) (s ++ [.lst acc']) = .ok (h x) (s ++ [.lst acc'])) : dLc it (.nm i) ts el own th env st = .ok (.ref s.length) (s ++ [.lst ((xs.filter p).map h)]) := by
  unfold dLc
  rw [hit]
  dsimp only [Res.bind]
  rw [lcV_map xs [] (by simpa using hz) ht he]
  rfl
/-- a comprehension over a list of the store -/
theorem dLc_list {it : DI} {i : Nat} {ts : DB} {el : DE} {p : PV → Bool} {h : PV → PV} {own : List Nat} {th : Th} {env : Env} {st s : Sto} {xs : List PV} {k m : Nat} (hit : it th env st = .ok (.dyn m (lstG k)) s) (hk : lstAt s k = some xs) (hm : xs.length < m) (hz : xs.length ≤ 16777216)
    (ht : ∀ x ∈ xs, ∀ acc', ts th ((wipeE env own).set i (some x)) (s ++ [.lst acc']) = .ok (p x) (s ++ [.lst acc']))
    (he : ∀ x ∈ xs, p x = true → ∀ acc', el th ((wipeE env own).set i (some x)) (s ++ [.lst acc']) = .ok (h x) (s ++ [.lst acc'])) : dLc it (.nm i) ts el own th env st = .ok (.ref s.length) (s ++ [.lst ((xs.filter p).map h)]) := by
  unfold dLc
  rw [hit]
  dsimp only [Res.bind]
  rw [lcL_map hk xs [] 0 m rfl hm (by simpa using hz) ht he]
  rfl
/-- elements that change the store: what is kept true of it -/
theorem lcV_inv {B i D : Nat} {el : DE} {own : List Nat} {th : Th} {env : Env} {I : Nat → Sto → Prop} {P : PV → Prop} (hset : ∀ n st acc, I n st → I n (st.set D (.lst acc))) : ∀ (xs : List PV), (∀ x ∈ xs, ∀ n st acc, n < B → I n st → st[D]? = some (.lst acc) → ∃ y st', el th (env.set i (some x)) st = .ok y st' ∧ P y ∧ I (n + 1) st' ∧ st'[D]? = some (.lst acc)) →
    ∀ (st : Sto) (acc : List PV) (n : Nat), n + xs.length ≤ B → I n st → st[D]? = some (.lst acc) → acc.length + xs.length ≤ 16777216 → ∃ ys st', lcV (.nm i) dYes el own th D xs env st = .ok () st' ∧ st'[D]? = some (.lst (acc ++ ys)) ∧ ys.length = xs.length ∧ (∀ y ∈ ys, P y) ∧ I (n + xs.length) st'
  | [], _, st, acc, n, _, hI, hD, _ => ⟨[], st, rfl, (by rw [List.append_nil]; exact hD), rfl, (fun y hy => nomatch hy), hI⟩
  | x :: xs, he, st, acc, n, hB, hI, hD, hz => by
    rw [List.length_cons] at hz hB
    obtain ⟨y, st1, e1, p1, i1, d1⟩ := he x List.mem_cons_self n st acc (by omega) hI hD
    have hl : D < st1.length := (List.getElem?_eq_some_iff.mp d1).1
    obtain ⟨ys, st2, e2, d2, l2, p2, i2⟩ := lcV_inv hset xs (fun z hz => he z (List.mem_cons_of_mem _ hz)) (st1.set D (.lst (acc ++ [y]))) (acc ++ [y]) (n + 1) (by omega) (hset _ _ _ i1) (List.getElem?_set_self hl) (by rw [List.length_append, List.length_singleton]; omega)
    refine ⟨y :: ys, st2, ?_, ?_, by rw [List.length_cons, List.length_cons, l2], fun z hz => ?_, ?_⟩
    · unfold lcV
      simp only [Tg.set, dYes, Res.bind]
      rw [e1]
      dsimp only [Res.bind]
      rw [d1]
      dsimp only
      have hb : Nat.blt acc.length 16777216 = true := Nat.ble_eq_true_of_le (by omega)
      rw [if_pos hb]
      exact e2
    · rw [d2, List.append_assoc]
      rfl
    · rcases List.mem_cons.mp hz with rfl | hz
      · exact p1
      · exact p2 z hz
    · rw [List.length_cons, Nat.add_comm xs.length 1, ← Nat.add_assoc]
      exact i2
/-- a loop over values: what is kept true -/
theorem forV_inv {B : Nat} {t : Tg} {body : DS} {th : Th} {I : Nat → Env → Sto → Prop} : ∀ (xs : List PV), (∀ x ∈ xs, ∀ n env st, n < B → I n env st → ∃ env1, t.set x env = some env1 ∧ ∃ env2 st2, body th env1 st = .nx env2 st2 ∧ I (n + 1) env2 st2) →
    ∀ (n : Nat) (env : Env) (st : Sto), n + xs.length ≤ B → I n env st → ∃ env' st', forV t body th xs env st = .nx env' st' ∧ I (n + xs.length) env' st'
  | [], _, n, env, st, _, h => ⟨env, st, rfl, h⟩
  | x :: xs, hb, n, env, st, hB, h => by
    rw [List.length_cons] at hB
    obtain ⟨env1, e1, env2, st2, e2, h2⟩ := hb x List.mem_cons_self n env st (by omega) h
    obtain ⟨env3, st3, e3, h3⟩ := forV_inv xs (fun y hy => hb y (List.mem_cons_of_mem _ hy)) (n + 1) env2 st2 (by omega) h2
    refine ⟨env3, st3, ?_, ?_⟩
    · unfold forV
      rw [e1]
      dsimp only
      rw [e2]
      exact e3
    · rw [List.length_cons, Nat.add_comm xs.length 1, ← Nat.add_assoc]
      exact h3
/-- a loop over a list of the store that stays as it is -/
theorem forL_inv {t : Tg} {body : DS} {th : Th} {I : Nat → Env → Sto → Prop} {k : Nat} {ys : List PV} (hk : ∀ n env st, I n env st → lstAt st k = some ys) (hb : ∀ x ∈ ys, ∀ n env st, I n env st → ∃ env1, t.set x env = some env1 ∧ ∃ env2 st2, body th env1 st = .nx env2 st2 ∧ I (n + 1) env2 st2) :
    ∀ (xs : List PV) (j m n : Nat) (env : Env) (st : Sto), ys.drop j = xs → xs.length < m → I n env st → ∃ env' st', forL t body th (lstG k) m j env st = .nx env' st' ∧ I (n + xs.length) env' st' := by
  intro xs
  induction xs with
  | nil =>
    intro j m n env st hd hm h
    cases m with
    | zero => cases hm
    | succ m =>
      refine ⟨env, st, ?_, h⟩
      unfold forL lstG
      rw [hk n env st h]
      dsimp only
      rw [List.getElem?_eq_none (List.drop_eq_nil_iff.mp hd)]
  | cons x xs ih =>
    intro j m n env st hd hm h
    cases m with
    | zero => cases hm
    | succ m =>
      rw [List.length_cons] at hm
      obtain ⟨d1, d2⟩ := drop_get hd
      obtain ⟨env1, e1, env2, st2, e2, h2⟩ := hb x (List.mem_of_getElem? d1) n env st h
      obtain ⟨env3, st3, e3, h3⟩ := ih (j + 1) m (n + 1) env2 st2 d2 (by omega) h2
      refine ⟨env3, st3, ?_, ?_⟩
      · unfold forL lstG
        rw [hk n env st h]
        dsimp only
        rw [d1]
        dsimp only
        rw [e1]
        dsimp only
        rw [e2]
        exact e3
      · rw [List.length_cons, Nat.add_comm xs.length 1, ← Nat.add_assoc]
        exact h3
end Mi
end
section
set_option maxRecDepth 100000
set_option maxHeartbeats 4000000
namespace K01
open PySem PySem.Spec PyProof.Rows L2 Mi
/-! ### what the package's defs answer -/
def lets : List Nat := [97, 98, 99, 100, 101, 102, 103, 104, 105, 106, 107, 108, 109, 110, 111, 112, 113, 114, 115, 116, 117, 118, 119, 120, 121, 122]
def nmB (x : List Nat) : Bool := Nat.ble 1 x.length && Nat.ble x.length 4 && x.all fun c => decide (c ∈ lets)
def s_is_name : Fn := fun ps st => match ps with
  | [p] => match tyOf st p with
    | some .str => match p with
      | .str x => if szOk x.length = true then .ok (.bl (nmB x)) st else .bad
      | _ => .bad
    | some _ => .ok (.bl false) st
    | none => .bad
  | _ => .bad
/-- a letter's figure: 1 to 26; 0 where there is none -/
def fig (x : List Nat) (i : Nat) : Int := match x[i]? with
  | some c => (c : Int) - 96
  | none => 0
def cellA (x : List Nat) : Int := 27 * fig x 0 + fig x 1
def cellB (x : List Nat) : Int := 27 * fig x 2 + fig x 3
def pair (a b : Int) : PV := .tup [.int a, .int b]
def s_cells_in : Fn := fun ps st => match ps with
  | [.str x] => if nmB x = true then .ok (pair (cellA x) (cellB x)) st else .bad
  | _ => .bad
def s_name_cells : Fn := s_cells_in
def s_figures : Fn := s_cells_in
/-- the name of a pair, if there is one -/
def figs4 (a b : Int) : List Int := [a / 27, a % 27, b / 27, b % 27]
def okPair (a b : Int) : Bool := match figs4 a b with
  | [p, q, r, s] => decide (a < 729) && decide (b < 729) && decide (0 < p) && (decide (0 < q) || (q == 0 && r == 0)) && (decide (0 < r) || (r == 0 && s == 0))
  | _ => false
def spell (a b : Int) : List Nat := ((figs4 a b).filter fun f => decide (0 < f)).map fun f => (f + 96).toNat
def nameOf (a b : Int) : PV := if okPair a b = true then .str (spell a b) else .non
def s_name_in : Fn := fun ps st => match ps with
  | [.int a, .int b] => if (decide (0 ≤ a) && decide (a ≤ 996) && decide (0 ≤ b) && decide (b ≤ 996)) = true then .ok (nameOf a b) st else .bad
  | _ => .bad
def s_cells_name : Fn := s_name_in
def s_spelled : Fn := s_name_in
def okV : PV → Bool
  | .ref _ => false
  | .fn _ => false
  | .thk => false
  | _ => true
def cellV : PV → Bool
  | .int i => decide (0 ≤ i) && decide (i ≤ 996)
  | _ => false
def s_is_cells : Fn := fun ps st => match ps with
  | [.tup xs] => if (xs.all okV && szOk xs.length) = true then .ok (.bl (xs.all cellV)) st else .bad
  | [p] => match tyOf st p with
    | some .tuple => .bad
    | some _ => .ok (.bl false) st
    | none => .bad
  | _ => .bad
/-! ### what the defs do -/
def d_is_whole : DS := dRet (dAnd (dUn (fIsi .int) (dVar 0)) (dNot (dUn (fIsi .bool) (dVar 0))))
def m_is_whole : Fn := mkF 1 d_is_whole
def f_is_whole : Fn := m_is_whole
def d_is_within : DS := dRet (dAnd (dCall 1 f_is_whole (dCons (dVar 0) (dNil))) (dChain pLe pLe (dVar 1) (dVar 0) (dVar 2)))
def m_is_within : Fn := mkF 3 d_is_within
def f_is_within : Fn := m_is_within
def d_is_cell : DS := dRet (dCall 3 f_is_within (dCons (dVar 0) (dCons (dC (.int 0)) (dCons (dC (.int 996)) (dNil)))))
def m_is_cell : Fn := mkF 1 d_is_cell
def f_is_cell : Fn := m_is_cell
def bo_is_cells_0 : DE := dCall 1 f_is_cell (dCons (dVar 1) (dNil))
def d_is_cells : DS := dRet (dAnd (dUn (fIsi .tuple) (dVar 0)) (dApp fAll (dCons (dLc (dIt (dVar 0)) (.nm 1) (dYes) (bo_is_cells_0) [1]) (dNil))))
def m_is_cells : Fn := mkF 2 d_is_cells
abbrev f_is_cells : Fn := s_is_cells
def bo_is_name_0 : DE := dBin pInK (dVar 1) (dC (.str [97, 98, 99, 100, 101, 102, 103, 104, 105, 106, 107, 108, 109, 110, 111, 112, 113, 114, 115, 116, 117, 118, 119, 120, 121, 122]))
def d_is_name : DS := dSeq (dIfS (dOrT (dNotT (dTst (dUn (fIsi .str) (dVar 0)))) (dNotT (dTB (dChain pLe pLe (dC (.int 1)) (dApp fLen (dCons (dVar 0) (dNil))) (dC (.int 4)))))) (dRet (dC (.bl false))) (dSkip)) (dRet (dApp fAll (dCons (dLc (dIt (dVar 0)) (.nm 1) (dYes) (bo_is_name_0) [1]) (dNil))))
def m_is_name : Fn := mkF 2 d_is_name
abbrev f_is_name : Fn := s_is_name
def d_require_name : DS := dIfS (dNotT (dTst (dCall 1 f_is_name (dCons (dVar 0) (dNil))))) (dNever) (dSkip)
def m_require_name : Fn := mkF 1 d_require_name
def f_require_name : Fn := m_require_name
def bo_cells_in_0 : DE := dBin pAdd (dMet isStr mSIndex (dC (.str [97, 98, 99, 100, 101, 102, 103, 104, 105, 106, 107, 108, 109, 110, 111, 112, 113, 114, 115, 116, 117, 118, 119, 120, 121, 122])) (dCons (dVar 2) (dNil))) (dC (.int 1))
def d_cells_in : DS := dSeq (dSet (.nm 1) (dLc (dIt (dVar 0)) (.nm 2) (dYes) (bo_cells_in_0) [2])) (dSeq (dExp (dMet isLst mExtend (dVar 1) (dCons (dBin pMul (dApp fLst (dCons (dC (.int 0)) (dNil))) (dBin pSub (dC (.int 4)) (dApp fLen (dCons (dVar 1) (dNil))))) (dNil)))) (dRet (dApp fTup (dCons (dBin pAdd (dBin pMul (dC (.int 27)) (dBin pIx (dVar 1) (dC (.int 0)))) (dBin pIx (dVar 1) (dC (.int 1)))) (dCons (dBin pAdd (dBin pMul (dC (.int 27)) (dBin pIx (dVar 1) (dC (.int 2)))) (dBin pIx (dVar 1) (dC (.int 3)))) (dNil))))))
def m_cells_in : Fn := mkF 3 d_cells_in
abbrev f_cells_in : Fn := s_cells_in
def bo_name_in_0 : DE := dBin pIx (dC (.str [97, 98, 99, 100, 101, 102, 103, 104, 105, 106, 107, 108, 109, 110, 111, 112, 113, 114, 115, 116, 117, 118, 119, 120, 121, 122])) (dBin pSub (dVar 4) (dC (.int 1)))
def d_name_in : DS := dSeq (dIfS (dTB (dBin pGe (dApp fMax (dCons (dVar 0) (dCons (dVar 1) (dNil)))) (dBin pMul (dC (.int 27)) (dC (.int 27))))) (dRet (dC .non)) (dSkip)) (dSeq (dSet (.nm 2) (dApp fLst (dCons (dBin pFdiv (dVar 0) (dC (.int 27))) (dCons (dBin pMod (dVar 0) (dC (.int 27))) (dCons (dBin pFdiv (dVar 1) (dC (.int 27))) (dCons (dBin pMod (dVar 1) (dC (.int 27))) (dNil))))))) (dSeq (dSet (.nm 3) (dMet isStr mJoin (dC (.str [])) (dCons (dLc (dIt (dVar 2)) (.nm 4) (dTB (dBin pGt (dVar 4) (dC (.int 0)))) (bo_name_in_0) [4]) (dNil)))) (dRet (dIf (dAndT (dTB (dBin pNe (dVar 3) (dC (.str [])))) (dTB (dBin pEq (dCall 1 f_cells_in (dCons (dVar 3) (dNil))) (dApp fTup (dCons (dVar 0) (dCons (dVar 1) (dNil))))))) (dVar 3) (dC .non)))))
def m_name_in : Fn := mkF 5 d_name_in
abbrev f_name_in : Fn := s_name_in
def d_name_cells : DS := dSeq (dExp (dCall 1 f_require_name (dCons (dVar 0) (dNil)))) (dRet (dCall 1 f_cells_in (dCons (dVar 0) (dNil))))
def m_name_cells : Fn := mkF 1 d_name_cells
abbrev f_name_cells : Fn := s_name_cells
def bo_cells_name_0 : DS := dIfS (dNotT (dTst (dCall 1 f_is_cell (dCons (dVar 2) (dNil))))) (dNever) (dSkip)
def d_cells_name : DS := dSeq (dFor (dIt (dApp fTup (dCons (dVar 0) (dCons (dVar 1) (dNil))))) (.nm 2) bo_cells_name_0) (dRet (dCall 2 f_name_in (dCons (dVar 0) (dCons (dVar 1) (dNil)))))
def m_cells_name : Fn := mkF 3 d_cells_name
abbrev f_cells_name : Fn := s_cells_name
def d__law_well : DS := dSeq (dSet (.nm 2) (dIf (dTB (dBin pLt (dVar 1) (dApp fLen (dCons (dVar 0) (dNil))))) (dApp fInt (dCons (dBin pIx (dVar 0) (dVar 1)) (dNil))) (dBin pAdd (dBin pAdd (dBin pMul (dC (.int 4001)) (dVar 1)) (dC (.int 71))) (dBin pMod (dApp fInt (dCons (dApp fSum (dCons (dSl (dVar 0) (dNoP) (dPt (dC (.int 1)))) (dNil))) (dNil))) (dC (.int 1000231)))))) (dSeq (dSet (.nm 3) (dBin pMod (dApp fInt (dCons (dApp fAbs (dCons (dVar 2) (dNil))) (dNil))) (dBin pPow (dBin pPow (dC (.int 10)) (dC (.int 57))) (dC (.int 8))))) (dSeq (dSet (.nm 4) (dApp fInt (dCons (dBin pAdd (dBin pAdd (dBin pAdd (dBin pMul (dBin pMod (dVar 3) (dC (.int 2305843009213693921))) (dC (.int 60091))) (dBin pMul (dC (.int 7001)) (dVar 1))) (dBin pMul (dC (.int 53)) (dApp fInt (dCons (dBin pLt (dVar 2) (dC (.int 0))) (dNil))))) (dC (.int 97))) (dNil)))) (dRet (dApp fLst (dCons (dApp fMax (dCons (dC (.int 0)) (dCons (dBin pSub (dVar 3) (dBin pPow (dC (.int 10)) (dC (.int 16)))) (dNil)))) (dCons (dBin pMod (dVar 4) (dC (.int 2305843009213693951))) (dCons (dC (.int 0)) (dNil))))))))
def m__law_well : Fn := mkF 5 d__law_well
def f__law_well : Fn := m__law_well
def d__law_drawn : DS := dSeq (dIfS (dTB (dBin pGt (dBin pIx (dVar 0) (dC (.int 0))) (dC (.int 0)))) (dSeq (dSet (.nm 4) (dBin pMod (dApp fInt (dCons (dBin pIx (dVar 0) (dC (.int 0))) (dNil))) (dVar 1))) (dSeq (dSub pSetL (dVar 0) (dC (.int 0)) (dBin pFdiv (dBin pIx (dVar 0) (dC (.int 0))) (dVar 1))) (dRet (dVar 4)))) (dSkip)) (dSeq (dSub pSetL (dVar 0) (dC (.int 2)) (dBin pAdd (dBin pIx (dVar 0) (dC (.int 2))) (dC (.int 1)))) (dSeq (dSet (.nm 2) (dBin pMod (dApp fInt (dCons (dBin pAdd (dBin pIx (dVar 0) (dC (.int 1))) (dBin pMul (dC (.int 49979687)) (dBin pIx (dVar 0) (dC (.int 2))))) (dNil))) (dC (.int 2305843009213693907)))) (dSeq (dSet (.nm 3) (dBin pAdd (dBin pAdd (dBin pMul (dBin pMod (dApp fInt (dCons (dBin pMul (dVar 2) (dVar 2)) (dNil))) (dC (.int 2305843009213693951))) (dC (.int 32452867))) (dVar 2)) (dBin pMul (dC (.int 37)) (dBin pIx (dVar 0) (dC (.int 2)))))) (dRet (dBin pMod (dApp fInt (dCons (dBin pFdiv (dVar 3) (dC (.int 131071))) (dNil))) (dVar 1))))))
def m__law_drawn : Fn := mkF 5 d__law_drawn
def f__law_drawn : Fn := m__law_drawn
def d__law_given : DS := dRet (dBin pIx (dVar 1) (dCall 2 f__law_drawn (dCons (dVar 0) (dCons (dApp fLen (dCons (dVar 1) (dNil))) (dNil)))))
def m__law_given : Fn := mkF 2 d__law_given
def f__law_given : Fn := m__law_given
def bo__law_figures_0 : DS := dSub pSetL (dVar 1) (dBin pFdiv (dVar 2) (dC (.int 2))) (dBin pAdd (dBin pIx (dVar 1) (dBin pFdiv (dVar 2) (dC (.int 2)))) (dBin pMul (dBin pIx (dApp fTup (dCons (dC (.int 27)) (dCons (dC (.int 1)) (dNil)))) (dBin pMod (dVar 2) (dC (.int 2)))) (dBin pAdd (dMet isStr mSIndex (dC (.str [97, 98, 99, 100, 101, 102, 103, 104, 105, 106, 107, 108, 109, 110, 111, 112, 113, 114, 115, 116, 117, 118, 119, 120, 121, 122])) (dCons (dVar 3) (dNil))) (dC (.int 1)))))
def d__law_figures : DS := dSeq (dSet (.nm 1) (dApp fLst (dCons (dC (.int 0)) (dCons (dC (.int 0)) (dNil))))) (dSeq (dFor (dRng fEn (dCons (dVar 0) (dNil))) (.tp [.nm 2, .nm 3]) bo__law_figures_0) (dRet (dApp fTuple (dCons (dVar 1) (dNil)))))
def m__law_figures : Fn := mkF 4 d__law_figures
abbrev f__law_figures : Fn := s_figures
def d__law_spelled : DS := dSeq (dIfS (dOrT (dTB (dBin pGt (dVar 0) (dC (.int 728)))) (dTB (dBin pGt (dVar 1) (dC (.int 728))))) (dRet (dC .non)) (dSkip)) (dSeq (dSet (.nm 2) (dC (.str [32, 97, 98, 99, 100, 101, 102, 103, 104, 105, 106, 107, 108, 109, 110, 111, 112, 113, 114, 115, 116, 117, 118, 119, 120, 121, 122]))) (dSeq (dSet (.nm 3) (dBin pAdd (dBin pAdd (dBin pAdd (dBin pIx (dVar 2) (dBin pFdiv (dVar 0) (dC (.int 27)))) (dBin pIx (dVar 2) (dBin pMod (dVar 0) (dC (.int 27))))) (dBin pIx (dVar 2) (dBin pFdiv (dVar 1) (dC (.int 27))))) (dBin pIx (dVar 2) (dBin pMod (dVar 1) (dC (.int 27)))))) (dRet (dIf (dAndT (dTB (dBin pNe (dBin pIx (dVar 3) (dC (.int 0))) (dC (.str [32])))) (dTB (dBin pNotIn (dC (.str [32])) (dMet isStr mRstrip (dVar 3) dNil)))) (dMet isStr mStrip (dVar 3) dNil) (dC .non)))))
def m__law_spelled : Fn := mkF 4 d__law_spelled
abbrev f__law_spelled : Fn := s_spelled
def d__law_near : DS := dSeq (dSet (.nm 1) (dCall 2 f__law_given (dCons (dVar 0) (dCons (dApp fLst (dCons (dC (.str [])) (dCons (dC (.str [65])) (dCons (dC (.str [97, 98, 99, 100, 101])) (dCons (dC (.str [97, 32, 98])) (dCons (dC (.str [97, 49])) (dCons (dC (.str [97, 98, 10])) (dCons (dC .non) (dCons (dC (.int 5)) (dCons (dApp fTup (dCons (dC (.str [97])) (dNil))) (dCons (dApp fLst (dCons (dC (.str [97])) (dNil))) (dCons (dC (.str [122])) (dCons (dC (.str [122, 122, 122, 122])) (dCons (dC (.str [97, 98, 99])) (dCons (dC (.bl true)) (dNil)))))))))))))))) (dNil))))) (dSeq (dSet (.nm 2) (dCall 2 f__law_given (dCons (dVar 0) (dCons (dApp fLst (dCons (dUn pNeg (dC (.int 1))) (dCons (dC (.int 997)) (dCons (dC (.int 996)) (dCons (dC (.int 0)) (dCons (dC (.bl true)) (dCons (dC .non) (dCons (dC (.str [53])) (dCons (dApp fTup (dCons (dC (.int 5)) (dNil))) (dCons (dBin pPow (dC (.int 10)) (dC (.int 60))) (dNil))))))))))) (dNil))))) (dSeq (dSet (.nm 3) (dCall 2 f__law_given (dCons (dVar 0) (dCons (dApp fLst (dCons (dApp fTup (dNil)) (dCons (dApp fTup (dCons (dC (.int 0)) (dCons (dC (.int 996)) (dNil)))) (dCons (dApp fTup (dCons (dC (.int 997)) (dNil))) (dCons (dApp fLst (dCons (dC (.int 1)) (dNil))) (dCons (dApp fTup (dCons (dC (.bl true)) (dNil))) (dCons (dC .non) (dCons (dApp fTup (dCons (dC (.str [49])) (dNil))) (dCons (dApp fTup (dCons (dC (.int 1)) (dCons (dUn pNeg (dC (.int 1))) (dNil)))) (dCons (dC (.int 5)) (dCons (dApp fTup (dCons (dC (.int 1)) (dCons (dApp fTup (dCons (dC (.int 2)) (dNil))) (dNil)))) (dCons (dDict0) (dNil))))))))))))) (dNil))))) (dRet (dApp fTup (dCons (dVar 1) (dCons (dVar 2) (dCons (dVar 3) (dNil))))))))
def m__law_near : Fn := mkF 4 d__law_near
def f__law_near : Fn := m__law_near
def bo__law_right_0 : DS := dSeq (dSet (.nm 6) (dCall 2 f__law_given (dCons (dVar 0) (dCons (dApp fLst (dCons (dC (.int 0)) (dCons (dC (.int 27)) (dCons (dC (.int 28)) (dCons (dC (.int 728)) (dCons (dC (.int 729)) (dCons (dC (.int 996)) (dCons (dCall 2 f__law_drawn (dCons (dVar 0) (dCons (dC (.int 997)) (dNil)))) (dCons (dBin pMul (dC (.int 27)) (dCall 2 f__law_drawn (dCons (dVar 0) (dCons (dC (.int 27)) (dNil))))) (dNil)))))))))) (dNil))))) (dSeq (dSet (.nm 7) (dCall 2 f__law_given (dCons (dVar 0) (dCons (dApp fLst (dCons (dC (.int 0)) (dCons (dC (.int 0)) (dCons (dC (.int 1)) (dCons (dC (.int 26)) (dCons (dC (.int 27)) (dCons (dC (.int 728)) (dCons (dC (.int 729)) (dCons (dCall 2 f__law_drawn (dCons (dVar 0) (dCons (dC (.int 997)) (dNil)))) (dCons (dBin pMul (dC (.int 27)) (dCall 2 f__law_drawn (dCons (dVar 0) (dCons (dC (.int 27)) (dNil))))) (dNil))))))))))) (dNil))))) (dIfS (dTB (dBin pNe (dCall 2 f_cells_name (dCons (dVar 6) (dCons (dVar 7) (dNil)))) (dCall 2 f__law_spelled (dCons (dVar 6) (dCons (dVar 7) (dNil)))))) (dRet (dC (.bl false))) (dSkip)))
def bo__law_right_1 : DE := dCall 1 f_name_cells (dCons (dVar 3) (dNil))
def bo__law_right_2 : DE := dCall 2 f_cells_name (dCons (dBin pIx (dVar 11) (dC (.int 0))) (dCons (dBin pIx (dVar 11) (dC (.int 1))) (dNil)))
def bo__law_right_3 : DS := dIfS (dOrT (dTB (dBin pNe (dCall 1 f_name_cells (dCons (dVar 3) (dNil))) (dCall 1 f__law_figures (dCons (dVar 3) (dNil))))) (dTB (dBin pNe (dCall 2 f_cells_name (dCons (dBin pIx (dCall 1 f_name_cells (dCons (dVar 3) (dNil))) (dC (.int 0))) (dCons (dBin pIx (dCall 1 f_name_cells (dCons (dVar 3) (dNil))) (dC (.int 1))) (dNil)))) (dVar 3)))) (dRet (dC (.bl false))) (dSkip)
def bo__law_right_4 : DE := dCall 2 f__law_given (dCons (dVar 0) (dCons (dApp fList (dCons (dC (.str [97, 97, 98, 109, 122])) (dNil))) (dNil)))
def bo__law_right_5 : DS := dSeq (dSet (.nm 5) (dLc (dRng fRng1 (dCons (dBin pAdd (dC (.int 1)) (dCall 2 f__law_drawn (dCons (dVar 0) (dCons (dC (.int 4)) (dNil))))) (dNil))) (.nm 10) (dYes) (bo__law_right_4) [10])) (dExp (dMet isLst mAppend (dVar 1) (dCons (dMet isStr mJoin (dC (.str [])) (dCons (dVar 5) (dNil))) (dNil))))
def d__law_right : DS := dSeq (dSet (.nm 1) (dApp fLst (dNil))) (dSeq (dFor (dRng fRng1 (dCons (dC (.int 5)) (dNil))) (.nm 2) bo__law_right_5) (dSeq (dFor (dIt (dVar 1)) (.nm 3) bo__law_right_3) (dSeq (dIfS (dTB (dBin pNe (dApp fSorted (dCons (dVar 1) (dNil))) (dLc (dIt (dApp fSorted (dCons (dLc (dIt (dVar 1)) (.nm 3) (dYes) (bo__law_right_1) [3]) (dNil)))) (.nm 11) (dYes) (bo__law_right_2) [11]))) (dRet (dC (.bl false))) (dSkip)) (dSeq (dFor (dRng fRng1 (dCons (dC (.int 6)) (dNil))) (.nm 2) bo__law_right_0) (dSeq (dSet (.tp [.nm 3, .nm 8, .nm 9]) (dCall 1 f__law_near (dCons (dVar 0) (dNil)))) (dSeq (dSet (.nm 4) (dApp fLst (dCons (dCall 1 f_is_name (dCons (dVar 3) (dNil))) (dCons (dCall 1 f_is_cell (dCons (dVar 8) (dNil))) (dCons (dCall 1 f_is_cells (dCons (dVar 9) (dNil))) (dNil)))))) (dRet (dBin pEq (dVar 4) (dApp fLst (dCons (dBin pInK (dVar 3) (dApp fTup (dCons (dC (.str [122])) (dCons (dC (.str [122, 122, 122, 122])) (dCons (dC (.str [97, 98, 99])) (dNil)))))) (dCons (dBin pInK (dApp fRepr (dCons (dVar 8) (dNil))) (dApp fTup (dCons (dC (.str [57, 57, 54])) (dCons (dC (.str [48])) (dNil))))) (dCons (dBin pInK (dVar 9) (dApp fTup (dCons (dApp fTup (dNil)) (dCons (dApp fTup (dCons (dC (.int 0)) (dCons (dC (.int 996)) (dNil)))) (dNil))))) (dNil)))))))))))))
def m__law_right : Fn := mkF 12 d__law_right
def f__law_right : Fn := m__law_right
def bo_law_0 : DS := dIfS (dNotT (dTst (dCall 1 f__law_right (dCons (dCall 2 f__law_well (dCons (dVar 0) (dCons (dVar 1) (dNil)))) (dNil))))) (dRet (dC (.bl false))) (dSkip)
def d_law : DS := dSeq (dFor (dRng fRng1 (dCons (dApp fMax (dCons (dC (.int 1)) (dCons (dApp fMin (dCons (dC (.int 4)) (dCons (dApp fLen (dCons (dVar 0) (dNil))) (dNil)))) (dNil)))) (dNil))) (.nm 1) bo_law_0) (dSeq (dSet (.nm 2) (dApp fLst (dCons (dCall 1 f_name_cells (dCons (dC (.str [97])) (dNil))) (dCons (dCall 1 f_name_cells (dCons (dC (.str [122, 97])) (dNil))) (dCons (dCall 1 f_name_cells (dCons (dC (.str [97, 98, 99, 100])) (dNil))) (dCons (dCall 1 f_name_cells (dCons (dC (.str [122, 122, 122, 122])) (dNil))) (dCons (dCall 2 f_cells_name (dCons (dC (.int 27)) (dCons (dC (.int 1)) (dNil)))) (dNil)))))))) (dSeq (dSet (.nm 2) (dBin pAdd (dVar 2) (dApp fLst (dCons (dCall 2 f_cells_name (dCons (dC (.int 0)) (dCons (dC (.int 0)) (dNil)))) (dNil))))) (dSeq (dIfS (dTB (dBin pNe (dVar 2) (dApp fLst (dCons (dApp fTup (dCons (dC (.int 27)) (dCons (dC (.int 0)) (dNil)))) (dCons (dApp fTup (dCons (dC (.int 703)) (dCons (dC (.int 0)) (dNil)))) (dCons (dApp fTup (dCons (dC (.int 29)) (dCons (dC (.int 85)) (dNil)))) (dCons (dApp fTup (dCons (dC (.int 728)) (dCons (dC (.int 728)) (dNil)))) (dCons (dC .non) (dCons (dC .non) (dNil)))))))))) (dRet (dC (.bl false))) (dSkip)) (dRet (dBin pEq (dApp fTup (dCons (dC (.int 997)) (dCons (dC (.int 996)) (dCons (dC (.int 4)) (dNil))))) (dApp fTup (dCons (dC (.int 997)) (dCons (dC (.int 996)) (dCons (dC (.int 4)) (dNil))))))))))
def m_law : Fn := mkF 3 d_law
def f_law : Fn := m_law
end K01
end
section
set_option maxRecDepth 100000
set_option maxHeartbeats 4000000
namespace K01
open PySem PySem.Spec PyProof.Rows L2 Mi
theorem isi_ok {T t : Ty} {p : PV} {st : Sto} (h : tyOf st p = some t) : fIsi T p st = .ok (.bl (isiB t T)) st := by
  unfold fIsi
  rw [h]
theorem all_true {α : Type} (xs : List α) : xs.filter (fun _ => true) = xs := by simp
theorem r_is_name : Ref s_is_name m_is_name := Ref.of fun ps st hp hs => by
  match ps with
  | [] => trivial
  | _ :: _ :: _ => trivial
  | [p] =>
    cases ht : tyOf st p with
    | none =>
      simp only [s_is_name, ht]
      trivial
    | some t =>
      have hi := isi_ok (T := .str) ht
      by_cases hstr : t = .str
      · subst hstr
        cases p <;> simp only [tyOf] at ht <;> try (cases ht; done)
        · rename_i x
          simp only [s_is_name, tyOf]
          by_cases hz : szOk x.length = true
          · rw [if_pos hz]
            simp only [m_is_name, d_is_name, bo_is_name_0, mkF, env0, dSeq, dSet, dIfS, dRet, dRetN, dExp, dBin, dUn, dVar, dC, dCons, dNil, dApp, dMet, dCall, dCallV, b_ok, b_bad, s_ok, f_rt, f_nx, dTB, dTst, dNotT, dOrT, dAndT, dAnd, dOr, dNot, dChain, dIf, dSkip, dNever, Tg.set, e_le, e_lt, e_ge, e_gt, e_add, e_sub, List.map_cons, List.map_nil, List.length_cons, List.length_nil, List.replicate, List.cons_append, List.nil_append, List.append_nil, List.getElem?_cons_zero, List.getElem?_cons_succ, List.set_cons_zero, List.set_cons_succ, Nat.sub_self, Nat.reduceSub, Nat.reduceAdd, wipeE, hi, isiB, pTru, e_len _ hz, Bool.not_true]
            by_cases hb : (1 : Int) ≤ x.length
            · by_cases hc : (x.length : Int) ≤ 4
              · simp only [hb, hc, decide_true, Bool.not_true, mkF, env0, dSeq, dSet, dIfS, dRet, dRetN, dExp, dBin, dUn, dVar, dC, dCons, dNil, dApp, dMet, dCall, dCallV, b_ok, b_bad, s_ok, f_rt, f_nx, dTB, dTst, dNotT, dOrT, dAndT, dAnd, dOr, dNot, dChain, dIf, dSkip, dNever, Tg.set, e_le, e_lt, e_ge, e_gt, e_add, e_sub, List.map_cons, List.map_nil, List.length_cons, List.length_nil, List.replicate, List.cons_append, List.nil_append, List.append_nil, List.getElem?_cons_zero, List.getElem?_cons_succ, List.set_cons_zero, List.set_cons_succ, Nat.sub_self, Nat.reduceSub, Nat.reduceAdd, wipeE]
                have hl := dLc_vals (it := dIt (dVar 0)) (i := 1) (ts := dYes) (el := dBin pInK (dVar 1) (dC (.str [97, 98, 99, 100, 101, 102, 103, 104, 105, 106, 107, 108, 109, 110, 111, 112, 113, 114, 115, 116, 117, 118, 119, 120, 121, 122]))) (p := fun _ => true) (h := fun q => .bl (match q with | .str [c] => decide (c ∈ lets) | _ => false)) (own := [1]) (th := noTh) (env := [some (.str x), none]) (st := st) (s := st) (xs := x.map fun c => .str [c]) rfl (by rw [List.length_map]; omega) (fun _ _ _ => rfl) (fun q hq _ acc => by
                  obtain ⟨c, _, rfl⟩ := List.mem_map.mp hq
                  rfl)
                have hl2 : dLc (dIt (dVar 0)) (.nm 1) dYes (dBin pInK (dVar 1) (dC (.str [97, 98, 99, 100, 101, 102, 103, 104, 105, 106, 107, 108, 109, 110, 111, 112, 113, 114, 115, 116, 117, 118, 119, 120, 121, 122]))) [1] noTh [some (.str x), none] st = .ok (.ref st.length) (st ++ [.lst (x.map fun c => .bl (decide (c ∈ lets)))]) := by
                  rw [hl, all_true, List.map_map]
                  rfl
                rw [hl2]
                simp only [mkF, env0, dSeq, dSet, dIfS, dRet, dRetN, dExp, dBin, dUn, dVar, dC, dCons, dNil, dApp, dMet, dCall, dCallV, b_ok, b_bad, s_ok, f_rt, f_nx, dTB, dTst, dNotT, dOrT, dAndT, dAnd, dOr, dNot, dChain, dIf, dSkip, dNever, Tg.set, e_le, e_lt, e_ge, e_gt, e_add, e_sub, List.map_cons, List.map_nil, List.length_cons, List.length_nil, List.replicate, List.cons_append, List.nil_append, List.append_nil, List.getElem?_cons_zero, List.getElem?_cons_succ, List.set_cons_zero, List.set_cons_succ, Nat.sub_self, Nat.reduceSub, Nat.reduceAdd, wipeE]
                rw [e_all (lst_end _ _ _) (bls_map (fun c => decide (c ∈ lets)) x)]
                simp only [mkF, env0, dSeq, dSet, dIfS, dRet, dRetN, dExp, dBin, dUn, dVar, dC, dCons, dNil, dApp, dMet, dCall, dCallV, b_ok, b_bad, s_ok, f_rt, f_nx, dTB, dTst, dNotT, dOrT, dAndT, dAnd, dOr, dNot, dChain, dIf, dSkip, dNever, Tg.set, e_le, e_lt, e_ge, e_gt, e_add, e_sub, List.map_cons, List.map_nil, List.length_cons, List.length_nil, List.replicate, List.cons_append, List.nil_append, List.append_nil, List.getElem?_cons_zero, List.getElem?_cons_succ, List.set_cons_zero, List.set_cons_succ, Nat.sub_self, Nat.reduceSub, Nat.reduceAdd, wipeE]
                have e : nmB x = (x.map fun c => decide (c ∈ lets)).all id := by
                  unfold nmB
                  rw [Nat.ble_eq_true_of_le (by omega : 1 ≤ x.length), Nat.ble_eq_true_of_le (by omega : x.length ≤ 4), List.all_map]
                  rfl
                rw [e]
                exact ⟨_, rfl, rfl, hs, Nat.le_refl _⟩
              · simp only [hb, hc, decide_true, decide_false, Bool.not_true, Bool.not_false, mkF, env0, dSeq, dSet, dIfS, dRet, dRetN, dExp, dBin, dUn, dVar, dC, dCons, dNil, dApp, dMet, dCall, dCallV, b_ok, b_bad, s_ok, f_rt, f_nx, dTB, dTst, dNotT, dOrT, dAndT, dAnd, dOr, dNot, dChain, dIf, dSkip, dNever, Tg.set, e_le, e_lt, e_ge, e_gt, e_add, e_sub, List.map_cons, List.map_nil, List.length_cons, List.length_nil, List.replicate, List.cons_append, List.nil_append, List.append_nil, List.getElem?_cons_zero, List.getElem?_cons_succ, List.set_cons_zero, List.set_cons_succ, Nat.sub_self, Nat.reduceSub, Nat.reduceAdd, wipeE]
                refine ⟨[], ?_, rfl, hs, Nat.le_refl _⟩
                have e : nmB x = false := by
                  unfold nmB
                  have : Nat.ble x.length 4 = false := by
                    cases h : Nat.ble x.length 4 with
                    | false => rfl
                    | true => exact absurd (Nat.le_of_ble_eq_true h) (by omega)
                  rw [this, Bool.and_false, Bool.false_and]
                rw [e, List.append_nil]
            · simp only [hb, decide_false, Bool.not_false, mkF, env0, dSeq, dSet, dIfS, dRet, dRetN, dExp, dBin, dUn, dVar, dC, dCons, dNil, dApp, dMet, dCall, dCallV, b_ok, b_bad, s_ok, f_rt, f_nx, dTB, dTst, dNotT, dOrT, dAndT, dAnd, dOr, dNot, dChain, dIf, dSkip, dNever, Tg.set, e_le, e_lt, e_ge, e_gt, e_add, e_sub, List.map_cons, List.map_nil, List.length_cons, List.length_nil, List.replicate, List.cons_append, List.nil_append, List.append_nil, List.getElem?_cons_zero, List.getElem?_cons_succ, List.set_cons_zero, List.set_cons_succ, Nat.sub_self, Nat.reduceSub, Nat.reduceAdd, wipeE]
              refine ⟨[], ?_, rfl, hs, Nat.le_refl _⟩
              have e : nmB x = false := by
                unfold nmB
                have : Nat.ble 1 x.length = false := by
                  cases h : Nat.ble 1 x.length with
                  | false => rfl
                  | true => exact absurd (Nat.le_of_ble_eq_true h) (by omega)
                rw [this, Bool.false_and, Bool.false_and]
              rw [e, List.append_nil]
          · rw [if_neg hz]
            trivial
        · exfalso
          revert ht
          split <;> simp
      · have hb : isiB t .str = false := by
          cases t <;> first | rfl | exact absurd rfl hstr
        have hr : s_is_name [p] st = .ok (.bl false) st := by
          unfold s_is_name
          dsimp only
          rw [ht]
          cases t <;> first | rfl | exact absurd rfl hstr
        rw [hr]
        simp only [m_is_name, d_is_name, bo_is_name_0, mkF, env0, dSeq, dSet, dIfS, dRet, dRetN, dExp, dBin, dUn, dVar, dC, dCons, dNil, dApp, dMet, dCall, dCallV, b_ok, b_bad, s_ok, f_rt, f_nx, dTB, dTst, dNotT, dOrT, dAndT, dAnd, dOr, dNot, dChain, dIf, dSkip, dNever, Tg.set, e_le, e_lt, e_ge, e_gt, e_add, e_sub, List.map_cons, List.map_nil, List.length_cons, List.length_nil, List.replicate, List.cons_append, List.nil_append, List.append_nil, List.getElem?_cons_zero, List.getElem?_cons_succ, List.set_cons_zero, List.set_cons_succ, Nat.sub_self, Nat.reduceSub, Nat.reduceAdd, wipeE, hi, hb, pTru, Bool.not_false]
        exact ⟨[], by rw [List.append_nil], rfl, hs, Nat.le_refl _⟩
/-! ### a name's cells -/
theorem idx_ok : ∀ c ∈ lets, Builtin.Str.occurrences (toS lets) (toS [c]) 0 26 1 = [c - 97] := by decide +kernel
theorem lets_ge : ∀ c ∈ lets, 97 ≤ c ∧ c ≤ 122 := by decide +kernel
theorem e_idx {c : Nat} (h : c ∈ lets) (st : Sto) : mSIndex (.str [97, 98, 99, 100, 101, 102, 103, 104, 105, 106, 107, 108, 109, 110, 111, 112, 113, 114, 115, 116, 117, 118, 119, 120, 121, 122]) [.str [c]] st = .ok (.int ((c - 97 : Nat) : Int)) st := by
  show (match Builtin.Str.occurrences (toS lets) (toS [c]) 0 26 1 with
    | i :: _ => Res.ok (PV.int (i : Nat)) st
    | [] => .bad) = _
  rw [idx_ok c h]
/-- the list of a name's figures -/
def figsP (x : List Nat) : List PV := x.map fun (c : Nat) => PV.int ((c : Int) - 96)
theorem lc_figs {x : List Nat} (hx : ∀ c ∈ x, c ∈ lets) (hz : x.length ≤ 4) (st : Sto) : dLc (dIt (dVar 0)) (.nm 2) dYes (dBin pAdd (dMet isStr mSIndex (dC (.str [97, 98, 99, 100, 101, 102, 103, 104, 105, 106, 107, 108, 109, 110, 111, 112, 113, 114, 115, 116, 117, 118, 119, 120, 121, 122])) (dCons (dVar 2) (dNil))) (dC (.int 1))) [2] noTh [some (.str x), none, none] st = .ok (.ref st.length) (st ++ [.lst (figsP x)]) := by
  have hl := dLc_vals (it := dIt (dVar 0)) (i := 2) (ts := dYes) (el := dBin pAdd (dMet isStr mSIndex (dC (.str [97, 98, 99, 100, 101, 102, 103, 104, 105, 106, 107, 108, 109, 110, 111, 112, 113, 114, 115, 116, 117, 118, 119, 120, 121, 122])) (dCons (dVar 2) (dNil))) (dC (.int 1))) (p := fun _ => true) (h := fun q => match q with | .str [c] => .int ((c : Int) - 96) | _ => .non) (own := [2]) (th := noTh) (env := [some (.str x), none, none]) (st := st) (s := st) (xs := x.map fun c => .str [c]) rfl (by rw [List.length_map]; omega) (fun _ _ _ => rfl) (fun q hq _ acc => by
    obtain ⟨c, hc, rfl⟩ := List.mem_map.mp hq
    have h1 := lets_ge c (hx c hc)
    simp only [mkF, env0, dSeq, dSet, dIfS, dRet, dRetN, dExp, dBin, dUn, dVar, dC, dCons, dNil, dApp, dMet, dCall, dCallV, b_ok, b_bad, s_ok, f_rt, f_nx, dTB, dTst, dNotT, dOrT, dAndT, dAnd, dOr, dNot, dChain, dIf, dSkip, dNever, Tg.set, e_le, e_lt, e_ge, e_gt, e_add, e_sub, List.map_cons, List.map_nil, List.length_cons, List.length_nil, List.replicate, List.cons_append, List.nil_append, List.append_nil, List.getElem?_cons_zero, List.getElem?_cons_succ, List.set_cons_zero, List.set_cons_succ, Nat.sub_self, Nat.reduceSub, Nat.reduceAdd, wipeE, isStr, if_true, e_idx (hx c hc)]
    have e : ((c - 97 : Nat) : Int) + 1 = (c : Int) - 96 := by omega
    rw [e])
  rw [hl, all_true, List.map_map]
  rfl
theorem nm_lets {x : List Nat} (h : nmB x = true) : (∀ c ∈ x, c ∈ lets) ∧ 1 ≤ x.length ∧ x.length ≤ 4 := by
  unfold nmB at h
  rw [Bool.and_eq_true, Bool.and_eq_true] at h
  exact ⟨fun c hc => of_decide_eq_true (List.all_eq_true.mp h.2 c hc), Nat.le_of_ble_eq_true h.1.1, Nat.le_of_ble_eq_true h.1.2⟩
theorem r_cells_in : Ref s_cells_in m_cells_in := Ref.of fun ps st hp hs => by
  unfold s_cells_in
  split
  · rename_i x
    split
    · rename_i hn
      obtain ⟨hx, h1, h4⟩ := nm_lets hn
      simp only [m_cells_in, d_cells_in, bo_cells_in_0, mkF, env0, dSeq, dSet, dIfS, dRet, dRetN, dExp, dBin, dUn, dVar, dC, dCons, dNil, dApp, dMet, dCall, dCallV, b_ok, b_bad, s_ok, f_rt, f_nx, dTB, dTst, dNotT, dOrT, dAndT, dAnd, dOr, dNot, dChain, dIf, dSkip, dNever, Tg.set, e_le, e_lt, e_ge, e_gt, e_add, e_sub, List.map_cons, List.map_nil, List.length_cons, List.length_nil, List.replicate, List.cons_append, List.nil_append, List.append_nil, List.getElem?_cons_zero, List.getElem?_cons_succ, List.set_cons_zero, List.set_cons_succ, Nat.sub_self, Nat.reduceSub, Nat.reduceAdd, wipeE]
      rw [lc_figs hx h4]
      simp only [mkF, env0, dSeq, dSet, dIfS, dRet, dRetN, dExp, dBin, dUn, dVar, dC, dCons, dNil, dApp, dMet, dCall, dCallV, b_ok, b_bad, s_ok, f_rt, f_nx, dTB, dTst, dNotT, dOrT, dAndT, dAnd, dOr, dNot, dChain, dIf, dSkip, dNever, Tg.set, e_le, e_lt, e_ge, e_gt, e_add, e_sub, List.map_cons, List.map_nil, List.length_cons, List.length_nil, List.replicate, List.cons_append, List.nil_append, List.append_nil, List.getElem?_cons_zero, List.getElem?_cons_succ, List.set_cons_zero, List.set_cons_succ, Nat.sub_self, Nat.reduceSub, Nat.reduceAdd, wipeE]
      have hF : (figsP x).length = x.length := List.length_map _
      have l0 : lstAt (st ++ [.lst (figsP x)]) st.length = some (figsP x) := lst_end st _ []
      rw [if_pos (e_isLst l0)]
      have hsz : szOk 1 = true := rfl
      have e1 : fLst [.int 0] (st ++ [.lst (figsP x)]) = .ok (.ref (st.length + 1)) (st ++ [.lst (figsP x), .lst [.int 0]]) := by
        unfold fLst
        rw [if_pos (show szOk [PV.int 0].length = true from rfl)]
        simp
      rw [e1]
      simp only [mkF, env0, dSeq, dSet, dIfS, dRet, dRetN, dExp, dBin, dUn, dVar, dC, dCons, dNil, dApp, dMet, dCall, dCallV, b_ok, b_bad, s_ok, f_rt, f_nx, dTB, dTst, dNotT, dOrT, dAndT, dAnd, dOr, dNot, dChain, dIf, dSkip, dNever, Tg.set, e_le, e_lt, e_ge, e_gt, e_add, e_sub, List.map_cons, List.map_nil, List.length_cons, List.length_nil, List.replicate, List.cons_append, List.nil_append, List.append_nil, List.getElem?_cons_zero, List.getElem?_cons_succ, List.set_cons_zero, List.set_cons_succ, Nat.sub_self, Nat.reduceSub, Nat.reduceAdd, wipeE]
      have l1 : lstAt (st ++ [.lst (figsP x), .lst [.int 0]]) st.length = some (figsP x) := lst_end st _ _
      rw [e_lenR l1]
      simp only [mkF, env0, dSeq, dSet, dIfS, dRet, dRetN, dExp, dBin, dUn, dVar, dC, dCons, dNil, dApp, dMet, dCall, dCallV, b_ok, b_bad, s_ok, f_rt, f_nx, dTB, dTst, dNotT, dOrT, dAndT, dAnd, dOr, dNot, dChain, dIf, dSkip, dNever, Tg.set, e_le, e_lt, e_ge, e_gt, e_add, e_sub, List.map_cons, List.map_nil, List.length_cons, List.length_nil, List.replicate, List.cons_append, List.nil_append, List.append_nil, List.getElem?_cons_zero, List.getElem?_cons_succ, List.set_cons_zero, List.set_cons_succ, Nat.sub_self, Nat.reduceSub, Nat.reduceAdd, wipeE]
      have g1 : (st ++ [.lst (figsP x), .lst [.int 0]])[st.length + 1]? = some (.lst [.int 0]) := get_add st _ 1
      rw [e_rep g1 (by
        rw [hF]
        simp only [Bool.and_eq_true, decide_eq_true_eq]
        refine ⟨⟨by omega, by omega⟩, Nat.ble_eq_true_of_le ?_⟩
        simp only [List.length_cons, List.length_nil]
        omega)]
      simp only [mkF, env0, dSeq, dSet, dIfS, dRet, dRetN, dExp, dBin, dUn, dVar, dC, dCons, dNil, dApp, dMet, dCall, dCallV, b_ok, b_bad, s_ok, f_rt, f_nx, dTB, dTst, dNotT, dOrT, dAndT, dAnd, dOr, dNot, dChain, dIf, dSkip, dNever, Tg.set, e_le, e_lt, e_ge, e_gt, e_add, e_sub, List.map_cons, List.map_nil, List.length_cons, List.length_nil, List.replicate, List.cons_append, List.nil_append, List.append_nil, List.getElem?_cons_zero, List.getElem?_cons_succ, List.set_cons_zero, List.set_cons_succ, Nat.sub_self, Nat.reduceSub, Nat.reduceAdd, wipeE]
      have len2 : (st ++ [SO.lst (figsP x), .lst [.int 0]]).length = st.length + 2 := by simp
      rw [len2, List.append_assoc]
      simp only [mkF, env0, dSeq, dSet, dIfS, dRet, dRetN, dExp, dBin, dUn, dVar, dC, dCons, dNil, dApp, dMet, dCall, dCallV, b_ok, b_bad, s_ok, f_rt, f_nx, dTB, dTst, dNotT, dOrT, dAndT, dAnd, dOr, dNot, dChain, dIf, dSkip, dNever, Tg.set, e_le, e_lt, e_ge, e_gt, e_add, e_sub, List.map_cons, List.map_nil, List.length_cons, List.length_nil, List.replicate, List.cons_append, List.nil_append, List.append_nil, List.getElem?_cons_zero, List.getElem?_cons_succ, List.set_cons_zero, List.set_cons_succ, Nat.sub_self, Nat.reduceSub, Nat.reduceAdd, wipeE]
      obtain ⟨Z, hZ⟩ : ∃ Z, Z = (List.replicate ((4 : Int) - ((figsP x).length : Int)).toNat [PV.int 0]).flatten := ⟨_, rfl⟩
      rw [← hZ]
      have zl : Z = List.replicate (4 - x.length) (PV.int 0) := by
        rw [hZ, hF]
        have : ((4 : Int) - (x.length : Int)).toNat = 4 - x.length := by omega
        rw [this]
        simp
      rw [e_extend (get_end st _ _) (get_add st _ 2) (by
        rw [zl, List.length_replicate, hF]
        exact Nat.ble_eq_true_of_le (by omega)), set_end]
      simp only [mkF, env0, dSeq, dSet, dIfS, dRet, dRetN, dExp, dBin, dUn, dVar, dC, dCons, dNil, dApp, dMet, dCall, dCallV, b_ok, b_bad, s_ok, f_rt, f_nx, dTB, dTst, dNotT, dOrT, dAndT, dAnd, dOr, dNot, dChain, dIf, dSkip, dNever, Tg.set, e_le, e_lt, e_ge, e_gt, e_add, e_sub, List.map_cons, List.map_nil, List.length_cons, List.length_nil, List.replicate, List.cons_append, List.nil_append, List.append_nil, List.getElem?_cons_zero, List.getElem?_cons_succ, List.set_cons_zero, List.set_cons_succ, Nat.sub_self, Nat.reduceSub, Nat.reduceAdd, wipeE]
      have l3 : ∀ r, lstAt (st ++ .lst (figsP x ++ Z) :: r) st.length = some (figsP x ++ Z) := fun r => lst_end st _ r
      have at_ : ∀ i : Nat, i < 4 → atI (figsP x ++ Z) (i : Int) = some (.int (fig x i)) := by
        intro i hi
        have hlen : (figsP x ++ Z).length = 4 := by
          rw [List.length_append, zl, List.length_replicate, hF]
          omega
        unfold atI ixN
        rw [hlen, if_pos (by omega), if_pos (by omega)]
        show (figsP x ++ Z)[i]? = _
        unfold fig
        by_cases h : i < x.length
        · rw [List.getElem?_append_left (by rw [hF]; exact h)]
          unfold figsP
          rw [List.getElem?_map, List.getElem?_eq_getElem h]
          rfl
        · rw [List.getElem?_append_right (by rw [hF]; omega), zl, List.getElem?_replicate, if_pos (by rw [hF]; omega), List.getElem?_eq_none (by omega)]
      have cm : ∀ i : Nat, cMul 27 (fig x i) = true := by
        intro i
        unfold cMul
        refine decide_eq_true ?_
        have hb : (fig x i).natAbs ≤ 26 := by
          unfold fig
          cases e : x[i]? with
          | none => decide
          | some c =>
            have := lets_ge c (hx c (List.mem_of_getElem? e))
            dsimp only
            omega
        have := Nat.log2_le_self (fig x i).natAbs
        have h2 : (27 : Int).natAbs.log2 ≤ 27 := Nat.log2_le_self 27
        omega
      have i0 := e_ixR (l3 [.lst [.int 0], .lst Z]) (at_ 0 (by decide))
      have i1 := e_ixR (l3 [.lst [.int 0], .lst Z]) (at_ 1 (by decide))
      have i2 := e_ixR (l3 [.lst [.int 0], .lst Z]) (at_ 2 (by decide))
      have i3 := e_ixR (l3 [.lst [.int 0], .lst Z]) (at_ 3 (by decide))
      simp only [Int.ofNat_eq_coe, Int.natCast_zero, Int.cast_ofNat_Int] at i0 i1 i2 i3
      simp only [i0, i1, i2, i3, e_mul _ (cm 0), e_mul _ (cm 2), mkF, env0, dSeq, dSet, dIfS, dRet, dRetN, dExp, dBin, dUn, dVar, dC, dCons, dNil, dApp, dMet, dCall, dCallV, b_ok, b_bad, s_ok, f_rt, f_nx, dTB, dTst, dNotT, dOrT, dAndT, dAnd, dOr, dNot, dChain, dIf, dSkip, dNever, Tg.set, e_le, e_lt, e_ge, e_gt, e_add, e_sub, List.map_cons, List.map_nil, List.length_cons, List.length_nil, List.replicate, List.cons_append, List.nil_append, List.append_nil, List.getElem?_cons_zero, List.getElem?_cons_succ, List.set_cons_zero, List.set_cons_succ, Nat.sub_self, Nat.reduceSub, Nat.reduceAdd, wipeE]
      exact ⟨_, rfl, rfl, hs, Nat.le_refl _⟩
    · trivial
  · trivial
/-! ### a pair's name -/
theorem glue_nil {α : Type} (g : α → Nat) : ∀ l : List α, glue [] (l.map fun f => [g f]) = l.map g
  | [] => rfl
  | [x] => rfl
  | x :: y :: r => by
    have ih := glue_nil g (y :: r)
    rw [List.map_cons, List.map_cons] at ih ⊢
    unfold glue
    rw [ih]
    rfl
theorem strs_map {α : Type} (g : α → Nat) : ∀ l : List α, strsOf (l.map fun f => .str [g f]) = some (l.map fun f => [g f])
  | [] => rfl
  | x :: r => by
    rw [List.map_cons]
    unfold strsOf
    rw [strs_map g r]
    rfl
def sp4 (p q r s : Int) : List Nat := ([p, q, r, s].filter fun f => decide (0 < f)).map fun f => (f + 96).toNat
theorem sp_key {p q r s : Int} (hp : 0 ≤ p) (hq : 0 ≤ q) (hr : 0 ≤ r) (hs : 0 ≤ s) (hp2 : p ≤ 26) (hq2 : q ≤ 26) (hr2 : r ≤ 26) (hs2 : s ≤ 26) :
    (sp4 p q r s ≠ [] ∧ cellA (sp4 p q r s) = 27 * p + q ∧ cellB (sp4 p q r s) = 27 * r + s) ↔ (0 < p ∧ (0 < q ∨ (q = 0 ∧ r = 0)) ∧ (0 < r ∨ (r = 0 ∧ s = 0))) := by
  unfold sp4 cellA cellB fig
  by_cases h1 : 0 < p <;> by_cases h2 : 0 < q <;> by_cases h3 : 0 < r <;> by_cases h4 : 0 < s <;> simp [h1, h2, h3, h4] <;> omega
theorem sp_eq (a b : Int) : spell a b = sp4 (a / 27) (a % 27) (b / 27) (b % 27) := rfl
theorem sp_nm {p q r s : Int} (hp : 0 ≤ p) (hq : 0 ≤ q) (hr : 0 ≤ r) (hs : 0 ≤ s) (hp2 : p ≤ 26) (hq2 : q ≤ 26) (hr2 : r ≤ 26) (hs2 : s ≤ 26) (hne : sp4 p q r s ≠ []) : nmB (sp4 p q r s) = true := by
  have hl : (sp4 p q r s).length ≤ 4 := by
    unfold sp4
    rw [List.length_map]
    exact List.length_filter_le _ _
  have h0 : 1 ≤ (sp4 p q r s).length := by
    cases h : sp4 p q r s with
    | nil => exact absurd h hne
    | cons x r => rw [List.length_cons]; omega
  unfold nmB
  rw [Nat.ble_eq_true_of_le hl, Nat.ble_eq_true_of_le h0]
  refine List.all_eq_true.mpr fun c hc => decide_eq_true ?_
  unfold sp4 at hc
  obtain ⟨f, hf, rfl⟩ := List.mem_map.mp hc
  obtain ⟨hf1, hf2⟩ := List.mem_filter.mp hf
  have hf2 : 0 < f := of_decide_eq_true hf2
  have hf3 : f ≤ 26 := by
    rcases List.mem_cons.mp hf1 with rfl | h
    · exact hp2
    · rcases List.mem_cons.mp h with rfl | h
      · exact hq2
      · rcases List.mem_cons.mp h with rfl | h
        · exact hr2
        · rw [List.mem_singleton.mp h]
          exact hs2
  have key : ∀ n : Nat, n < 26 → (n + 97) ∈ lets := by decide
  have := key (f - 1).toNat (by omega)
  have e : (f - 1).toNat + 97 = (f + 96).toNat := by omega
  rw [e] at this
  exact this
theorem atL {f : Int} (h : 0 < f) (h2 : f ≤ 26) : atI ([97, 98, 99, 100, 101, 102, 103, 104, 105, 106, 107, 108, 109, 110, 111, 112, 113, 114, 115, 116, 117, 118, 119, 120, 121, 122] : List Nat) (f - 1) = some (f + 96).toNat := by
  have key : ∀ n : Nat, n < 26 → lets[n]? = some (n + 97) := by decide
  show atI lets (f - 1) = _
  unfold atI ixN
  rw [if_pos (by omega), if_pos (show f - 1 < ((lets.length : Nat) : Int) by show f - 1 < 26; omega)]
  show lets[(f - 1).toNat]? = _
  rw [key _ (by omega)]
  congr 1
  omega
theorem eqB_pair (x y a b : Int) (st : Sto) : pEq (pair x y) (.tup [.int a, .int b]) st = .ok (.bl (decide (x = a ∧ y = b))) st := by
  have e : pEqB (pair x y) (.tup [.int a, .int b]) st = some (x == a && (y == b && true)) := rfl
  unfold pEq
  rw [e]
  congr 2
  by_cases h1 : x = a <;> by_cases h2 : y = b <;> simp [h1, h2]
theorem neB_nil (x : List Nat) (st : Sto) : pNe (.str x) (.str []) st = .ok (.bl (decide (x ≠ []))) st := by
  have e : pEqB (.str x) (.str []) st = some (decide (x = [])) := rfl
  unfold pNe
  rw [e]
  congr 2
  by_cases h : x = [] <;> simp [h]
theorem e_fdiv27 (i : Int) (st : Sto) : pFdiv (.int i) (.int 27) st = .ok (.int (i / 27)) st := e_fdiv st rfl
theorem e_mod27 (i : Int) (st : Sto) : pMod (.int i) (.int 27) st = .ok (.int (i % 27)) st := e_mod st (by decide)
theorem e_lst {xs : List PV} (h : szOk xs.length = true) (st : Sto) : fLst xs st = .ok (.ref st.length) (st ++ [.lst xs]) := by
  unfold fLst
  rw [if_pos h]
theorem e_tup {xs : List PV} (h : szOk xs.length = true) (st : Sto) : fTup xs st = .ok (.tup xs) st := by
  unfold fTup
  rw [if_pos h]
theorem e_tup2 (x y : PV) (st : Sto) : fTup [x, y] st = .ok (.tup [x, y]) st := rfl
theorem e_join {a : List Nat} {k : Nat} {s : Sto} {ys : List PV} {ss : List (List Nat)} (h1 : lstAt s k = some ys) (h2 : strsOf ys = some ss) (h3 : szOk ((ss.map List.length).sum + ss.length * a.length) = true) : mJoin (.str a) [.ref k] s = .ok (.str (glue a ss)) s := by
  unfold mJoin
  dsimp only [seqOf]
  rw [h1]
  dsimp only
  rw [h2]
  dsimp only
  rw [if_pos h3]
theorem lc_spell {a b : Int} {s : Sto} (F : List Int) (hF : ∀ f ∈ F, 0 ≤ f ∧ f ≤ 26) (hl : F.length ≤ 4) : dLc (dIt (dVar 2)) (.nm 4) (dTB (dBin pGt (dVar 4) (dC (.int 0)))) (dBin pIx (dC (.str [97, 98, 99, 100, 101, 102, 103, 104, 105, 106, 107, 108, 109, 110, 111, 112, 113, 114, 115, 116, 117, 118, 119, 120, 121, 122])) (dBin pSub (dVar 4) (dC (.int 1)))) [4] noTh [some (.int a), some (.int b), some (.ref s.length), none, none] (s ++ [.lst (F.map PV.int)]) =
    .ok (.ref (s.length + 1)) (s ++ [.lst (F.map PV.int), .lst ((F.filter fun f => decide (0 < f)).map fun f => .str [(f + 96).toNat])]) := by
  have hl := dLc_list (it := dIt (dVar 2)) (i := 4) (ts := dTB (dBin pGt (dVar 4) (dC (.int 0)))) (el := dBin pIx (dC (.str [97, 98, 99, 100, 101, 102, 103, 104, 105, 106, 107, 108, 109, 110, 111, 112, 113, 114, 115, 116, 117, 118, 119, 120, 121, 122])) (dBin pSub (dVar 4) (dC (.int 1)))) (p := fun q => match q with | .int f => decide (0 < f) | _ => false) (h := fun q => match q with | .int f => .str [(f + 96).toNat] | _ => .non)
    (own := [4]) (th := noTh) (env := [some (.int a), some (.int b), some (.ref s.length), none, none]) (st := s ++ [.lst (F.map PV.int)]) (s := s ++ [.lst (F.map PV.int)]) (xs := F.map PV.int) (k := s.length) (m := (F.map PV.int).length + 1) (by
      have h : dIt (dVar 2) noTh [some (.int a), some (.int b), some (.ref s.length), none, none] (s ++ [.lst (F.map PV.int)]) = itOf (.ref s.length) (s ++ [.lst (F.map PV.int)]) := rfl
      rw [h]
      unfold itOf
      dsimp only
      rw [lst_end]) (lst_end s _ []) (Nat.lt_succ_self _) (by rw [List.length_map]; omega) (fun q hq acc => by
      obtain ⟨f, _, rfl⟩ := List.mem_map.mp hq
      rfl) (fun q hq hp acc => by
      obtain ⟨f, hf, rfl⟩ := List.mem_map.mp hq
      have hp : decide (0 < f) = true := hp
      have h0 : 0 < f := of_decide_eq_true hp
      simp only [mkF, env0, dSeq, dSet, dIfS, dRet, dRetN, dExp, dBin, dUn, dVar, dC, dCons, dNil, dApp, dMet, dCall, dCallV, b_ok, b_bad, s_ok, f_rt, f_nx, dTB, dTst, dNotT, dOrT, dAndT, dAnd, dOr, dNot, dChain, dIf, dSkip, dNever, Tg.set, e_le, e_lt, e_ge, e_gt, e_add, e_sub, List.map_cons, List.map_nil, List.length_cons, List.length_nil, List.replicate, List.cons_append, List.nil_append, List.append_nil, List.getElem?_cons_zero, List.getElem?_cons_succ, List.set_cons_zero, List.set_cons_succ, Nat.sub_self, Nat.reduceSub, Nat.reduceAdd, wipeE]
      rw [e_ixS rfl (atL h0 (hF f hf).2)])
  rw [hl]
  have e1 : (s ++ [SO.lst (F.map PV.int)]).length = s.length + 1 := by simp
  rw [e1, List.append_assoc, List.filter_map, List.map_map]
  rfl
theorem e_max (i j : Int) (st : Sto) : fMax [.int i, .int j] st = .ok (.int (if j > i then j else i)) st := rfl
theorem r_name_in : Ref s_name_in m_name_in := Ref.of fun ps st hp hs => by
  unfold s_name_in
  split
  · rename_i a b
    split
    · rename_i hb
      simp only [Bool.and_eq_true, decide_eq_true_eq] at hb
      obtain ⟨⟨⟨a0, a1⟩, b0⟩, b1⟩ := hb
      simp only [m_name_in, d_name_in, bo_name_in_0, mkF, env0, dSeq, dSet, dIfS, dRet, dRetN, dExp, dBin, dUn, dVar, dC, dCons, dNil, dApp, dMet, dCall, dCallV, b_ok, b_bad, s_ok, f_rt, f_nx, dTB, dTst, dNotT, dOrT, dAndT, dAnd, dOr, dNot, dChain, dIf, dSkip, dNever, Tg.set, e_le, e_lt, e_ge, e_gt, e_add, e_sub, List.map_cons, List.map_nil, List.length_cons, List.length_nil, List.replicate, List.cons_append, List.nil_append, List.append_nil, List.getElem?_cons_zero, List.getElem?_cons_succ, List.set_cons_zero, List.set_cons_succ, Nat.sub_self, Nat.reduceSub, Nat.reduceAdd, wipeE, e_max, e_mul (i := 27) (j := 27) _ (by decide)]
      by_cases hm : (27 : Int) * 27 ≤ (if b > a then b else a)
      · simp only [hm, decide_true, mkF, env0, dSeq, dSet, dIfS, dRet, dRetN, dExp, dBin, dUn, dVar, dC, dCons, dNil, dApp, dMet, dCall, dCallV, b_ok, b_bad, s_ok, f_rt, f_nx, dTB, dTst, dNotT, dOrT, dAndT, dAnd, dOr, dNot, dChain, dIf, dSkip, dNever, Tg.set, e_le, e_lt, e_ge, e_gt, e_add, e_sub, List.map_cons, List.map_nil, List.length_cons, List.length_nil, List.replicate, List.cons_append, List.nil_append, List.append_nil, List.getElem?_cons_zero, List.getElem?_cons_succ, List.set_cons_zero, List.set_cons_succ, Nat.sub_self, Nat.reduceSub, Nat.reduceAdd, wipeE]
        refine ⟨[], ?_, ?_, hs, Nat.le_refl _⟩
        · have e : nameOf a b = .non := by
            unfold nameOf
            rw [if_neg]
            intro h
            have h : (decide (a < 729) && decide (b < 729) && decide (0 < a / 27) && (decide (0 < a % 27) || (a % 27 == 0 && b / 27 == 0)) && (decide (0 < b / 27) || (b / 27 == 0 && b % 27 == 0))) = true := h
            simp only [Bool.and_eq_true, decide_eq_true_eq] at h
            split at hm <;> omega
          rw [e, List.append_nil]
        · unfold nameOf
          split <;> rfl
      · have hlt : a < 729 ∧ b < 729 := by
          split at hm <;> omega
        simp only [hm, decide_false, mkF, env0, dSeq, dSet, dIfS, dRet, dRetN, dExp, dBin, dUn, dVar, dC, dCons, dNil, dApp, dMet, dCall, dCallV, b_ok, b_bad, s_ok, f_rt, f_nx, dTB, dTst, dNotT, dOrT, dAndT, dAnd, dOr, dNot, dChain, dIf, dSkip, dNever, Tg.set, e_le, e_lt, e_ge, e_gt, e_add, e_sub, List.map_cons, List.map_nil, List.length_cons, List.length_nil, List.replicate, List.cons_append, List.nil_append, List.append_nil, List.getElem?_cons_zero, List.getElem?_cons_succ, List.set_cons_zero, List.set_cons_succ, Nat.sub_self, Nat.reduceSub, Nat.reduceAdd, wipeE, e_fdiv27, e_mod27]
        rw [e_lst rfl]
        simp only [mkF, env0, dSeq, dSet, dIfS, dRet, dRetN, dExp, dBin, dUn, dVar, dC, dCons, dNil, dApp, dMet, dCall, dCallV, b_ok, b_bad, s_ok, f_rt, f_nx, dTB, dTst, dNotT, dOrT, dAndT, dAnd, dOr, dNot, dChain, dIf, dSkip, dNever, Tg.set, e_le, e_lt, e_ge, e_gt, e_add, e_sub, List.map_cons, List.map_nil, List.length_cons, List.length_nil, List.replicate, List.cons_append, List.nil_append, List.append_nil, List.getElem?_cons_zero, List.getElem?_cons_succ, List.set_cons_zero, List.set_cons_succ, Nat.sub_self, Nat.reduceSub, Nat.reduceAdd, wipeE, isStr, if_true]
        have hF : ∀ f ∈ figs4 a b, 0 ≤ f ∧ f ≤ 26 := by
          intro f hf
          simp only [figs4, List.mem_cons, List.not_mem_nil, or_false] at hf
          omega
        have hlc := lc_spell (a := a) (b := b) (s := st) (figs4 a b) hF (Nat.le_refl 4)
        rw [show [PV.int (a / 27), .int (a % 27), .int (b / 27), .int (b % 27)] = (figs4 a b).map PV.int from rfl, hlc]
        simp only [mkF, env0, dSeq, dSet, dIfS, dRet, dRetN, dExp, dBin, dUn, dVar, dC, dCons, dNil, dApp, dMet, dCall, dCallV, b_ok, b_bad, s_ok, f_rt, f_nx, dTB, dTst, dNotT, dOrT, dAndT, dAnd, dOr, dNot, dChain, dIf, dSkip, dNever, Tg.set, e_le, e_lt, e_ge, e_gt, e_add, e_sub, List.map_cons, List.map_nil, List.length_cons, List.length_nil, List.replicate, List.cons_append, List.nil_append, List.append_nil, List.getElem?_cons_zero, List.getElem?_cons_succ, List.set_cons_zero, List.set_cons_succ, Nat.sub_self, Nat.reduceSub, Nat.reduceAdd, wipeE]
        have hle : ((figs4 a b).filter fun f => decide (0 < f)).length ≤ 4 := List.length_filter_le _ (figs4 a b)
        rw [e_join (lst_of (get_add st _ 1)) (strs_map (fun f : Int => (f + 96).toNat) _) (by
          rw [List.length_map, List.map_map, List.length_nil, Nat.mul_zero]
          have : ∀ l : List Int, (l.map (List.length ∘ fun f => [(f + 96).toNat])).sum = l.length := fun l => by
            induction l with
            | nil => rfl
            | cons x l ih =>
              rw [List.map_cons, List.sum_cons, ih, List.length_cons]
              show 1 + _ = _
              omega
          rw [this]
          exact Nat.ble_eq_true_of_le (by omega)), glue_nil]
        simp only [mkF, env0, dSeq, dSet, dIfS, dRet, dRetN, dExp, dBin, dUn, dVar, dC, dCons, dNil, dApp, dMet, dCall, dCallV, b_ok, b_bad, s_ok, f_rt, f_nx, dTB, dTst, dNotT, dOrT, dAndT, dAnd, dOr, dNot, dChain, dIf, dSkip, dNever, Tg.set, e_le, e_lt, e_ge, e_gt, e_add, e_sub, List.map_cons, List.map_nil, List.length_cons, List.length_nil, List.replicate, List.cons_append, List.nil_append, List.append_nil, List.getElem?_cons_zero, List.getElem?_cons_succ, List.set_cons_zero, List.set_cons_succ, Nat.sub_self, Nat.reduceSub, Nat.reduceAdd, wipeE, neB_nil]
        have esp : (((figs4 a b).filter fun f => decide (0 < f)).map fun f => (f + 96).toNat) = sp4 (a / 27) (a % 27) (b / 27) (b % 27) := rfl
        rw [esp]
        have key := sp_key (p := a / 27) (q := a % 27) (r := b / 27) (s := b % 27) (by omega) (by omega) (by omega) (by omega) (by omega) (by omega) (by omega) (by omega)
        have okp : okPair a b = decide (0 < a / 27 ∧ (0 < a % 27 ∨ (a % 27 = 0 ∧ b / 27 = 0)) ∧ (0 < b / 27 ∨ (b / 27 = 0 ∧ b % 27 = 0))) := by
          show (decide (a < 729) && decide (b < 729) && decide (0 < a / 27) && (decide (0 < a % 27) || (a % 27 == 0 && b / 27 == 0)) && (decide (0 < b / 27) || (b / 27 == 0 && b % 27 == 0))) = _
          rw [Bool.eq_iff_iff]
          simp only [Bool.and_eq_true, Bool.or_eq_true, decide_eq_true_eq, beq_iff_eq]
          constructor
          · intro h
            omega
          · intro h
            omega
        have fin : ∀ v g, v = nameOf a b → LeR st.length (.ok (nameOf a b) st) (.ok v (st ++ g)) := fun v g e => by
          rw [e]
          refine ⟨g, rfl, ?_, hs, Nat.le_refl _⟩
          unfold nameOf
          split <;> rfl
        by_cases hne : sp4 (a / 27) (a % 27) (b / 27) (b % 27) = []
        · simp only [hne, ne_eq, not_true_eq_false, decide_false, mkF, env0, dSeq, dSet, dIfS, dRet, dRetN, dExp, dBin, dUn, dVar, dC, dCons, dNil, dApp, dMet, dCall, dCallV, b_ok, b_bad, s_ok, f_rt, f_nx, dTB, dTst, dNotT, dOrT, dAndT, dAnd, dOr, dNot, dChain, dIf, dSkip, dNever, Tg.set, e_le, e_lt, e_ge, e_gt, e_add, e_sub, List.map_cons, List.map_nil, List.length_cons, List.length_nil, List.replicate, List.cons_append, List.nil_append, List.append_nil, List.getElem?_cons_zero, List.getElem?_cons_succ, List.set_cons_zero, List.set_cons_succ, Nat.sub_self, Nat.reduceSub, Nat.reduceAdd, wipeE]
          refine fin _ _ ?_
          unfold nameOf
          rw [if_neg]
          rw [okp, decide_eq_true_eq, ← key]
          exact fun h => h.1 hne
        · have hcell : ∀ s, f_cells_in [.str (sp4 (a / 27) (a % 27) (b / 27) (b % 27))] s = .ok (pair (cellA (sp4 (a / 27) (a % 27) (b / 27) (b % 27))) (cellB (sp4 (a / 27) (a % 27) (b / 27) (b % 27)))) s := fun s => by
            show s_cells_in _ s = _
            unfold s_cells_in
            dsimp only
            rw [if_pos (sp_nm (by omega) (by omega) (by omega) (by omega) (by omega) (by omega) (by omega) (by omega) hne)]
          simp only [hne, ne_eq, not_false_eq_true, decide_true, mkF, env0, dSeq, dSet, dIfS, dRet, dRetN, dExp, dBin, dUn, dVar, dC, dCons, dNil, dApp, dMet, dCall, dCallV, b_ok, b_bad, s_ok, f_rt, f_nx, dTB, dTst, dNotT, dOrT, dAndT, dAnd, dOr, dNot, dChain, dIf, dSkip, dNever, Tg.set, e_le, e_lt, e_ge, e_gt, e_add, e_sub, List.map_cons, List.map_nil, List.length_cons, List.length_nil, List.replicate, List.cons_append, List.nil_append, List.append_nil, List.getElem?_cons_zero, List.getElem?_cons_succ, List.set_cons_zero, List.set_cons_succ, Nat.sub_self, Nat.reduceSub, Nat.reduceAdd, wipeE, Nat.beq, if_true, hcell, e_tup2, eqB_pair]
          by_cases hk : cellA (sp4 (a / 27) (a % 27) (b / 27) (b % 27)) = a ∧ cellB (sp4 (a / 27) (a % 27) (b / 27) (b % 27)) = b
          · rw [decide_eq_true hk]
            refine fin _ _ ?_
            unfold nameOf
            rw [if_pos]
            · rfl
            · rw [okp, decide_eq_true_eq, ← key]
              exact ⟨hne, by rw [hk.1]; omega, by rw [hk.2]; omega⟩
          · rw [decide_eq_false hk]
            refine fin _ _ ?_
            unfold nameOf
            rw [if_neg]
            rw [okp, decide_eq_true_eq, ← key]
            intro h
            exact hk ⟨by rw [h.2.1]; omega, by rw [h.2.2]; omega⟩
    · trivial
  · trivial
end K01
end
section
set_option maxRecDepth 100000
set_option maxHeartbeats 4000000
namespace K01
open PySem PySem.Spec PyProof.Rows L2 Mi
theorem nm_sz {x : List Nat} (h : nmB x = true) : szOk x.length = true := by
  obtain ⟨_, _, h4⟩ := nm_lets h
  exact Nat.ble_eq_true_of_le (by omega)
theorem req_ok {x : List Nat} (h : nmB x = true) (st : Sto) : f_require_name [.str x] st = .ok .non st := by
  have e : f_is_name [.str x] st = .ok (.bl true) st := by
    show s_is_name _ st = _
    unfold s_is_name
    simp only [tyOf]
    rw [if_pos (nm_sz h), h]
  simp only [f_require_name, m_require_name, d_require_name, mkF, env0, dSeq, dSet, dIfS, dRet, dRetN, dExp, dBin, dUn, dVar, dC, dCons, dNil, dApp, dMet, dCall, dCallV, b_ok, b_bad, s_ok, f_rt, f_nx, dTB, dTst, dNotT, dOrT, dAndT, dAnd, dOr, dNot, dChain, dIf, dSkip, dNever, Tg.set, e_le, e_lt, e_ge, e_gt, e_add, e_sub, List.map_cons, List.map_nil, List.length_cons, List.length_nil, List.replicate, List.cons_append, List.nil_append, List.append_nil, List.getElem?_cons_zero, List.getElem?_cons_succ, List.set_cons_zero, List.set_cons_succ, Nat.sub_self, Nat.reduceSub, Nat.reduceAdd, wipeE, Nat.beq, if_true, e, pTru, Bool.not_true]
theorem r_name_cells : Ref s_name_cells m_name_cells := Ref.of fun ps st hp hs => by
  unfold s_name_cells s_cells_in
  split
  · rename_i x
    split
    · rename_i hn
      have e : ∀ s, f_cells_in [.str x] s = .ok (pair (cellA x) (cellB x)) s := fun s => by
        show s_cells_in _ s = _
        unfold s_cells_in
        dsimp only
        rw [if_pos hn]
      simp only [m_name_cells, d_name_cells, mkF, env0, dSeq, dSet, dIfS, dRet, dRetN, dExp, dBin, dUn, dVar, dC, dCons, dNil, dApp, dMet, dCall, dCallV, b_ok, b_bad, s_ok, f_rt, f_nx, dTB, dTst, dNotT, dOrT, dAndT, dAnd, dOr, dNot, dChain, dIf, dSkip, dNever, Tg.set, e_le, e_lt, e_ge, e_gt, e_add, e_sub, List.map_cons, List.map_nil, List.length_cons, List.length_nil, List.replicate, List.cons_append, List.nil_append, List.append_nil, List.getElem?_cons_zero, List.getElem?_cons_succ, List.set_cons_zero, List.set_cons_succ, Nat.sub_self, Nat.reduceSub, Nat.reduceAdd, wipeE, Nat.beq, if_true, req_ok hn, e]
      exact ⟨[], by rw [List.append_nil], rfl, hs, Nat.le_refl _⟩
    · trivial
  · trivial
theorem cell_ok (a : Int) (st : Sto) : f_is_cell [.int a] st = .ok (.bl (decide (0 ≤ a) && decide (a ≤ 996))) st := by
  simp only [f_is_cell, m_is_cell, d_is_cell, f_is_within, m_is_within, d_is_within, f_is_whole, m_is_whole, d_is_whole, mkF, env0, dSeq, dSet, dIfS, dRet, dRetN, dExp, dBin, dUn, dVar, dC, dCons, dNil, dApp, dMet, dCall, dCallV, b_ok, b_bad, s_ok, f_rt, f_nx, dTB, dTst, dNotT, dOrT, dAndT, dAnd, dOr, dNot, dChain, dIf, dSkip, dNever, Tg.set, e_le, e_lt, e_ge, e_gt, e_add, e_sub, List.map_cons, List.map_nil, List.length_cons, List.length_nil, List.replicate, List.cons_append, List.nil_append, List.append_nil, List.getElem?_cons_zero, List.getElem?_cons_succ, List.set_cons_zero, List.set_cons_succ, Nat.sub_self, Nat.reduceSub, Nat.reduceAdd, wipeE, Nat.beq, if_true, fIsi, tyOf, isiB, pTru, Bool.not_false]
  by_cases h : 0 ≤ a
  · simp only [h, decide_true, mkF, env0, dSeq, dSet, dIfS, dRet, dRetN, dExp, dBin, dUn, dVar, dC, dCons, dNil, dApp, dMet, dCall, dCallV, b_ok, b_bad, s_ok, f_rt, f_nx, dTB, dTst, dNotT, dOrT, dAndT, dAnd, dOr, dNot, dChain, dIf, dSkip, dNever, Tg.set, e_le, e_lt, e_ge, e_gt, e_add, e_sub, List.map_cons, List.map_nil, List.length_cons, List.length_nil, List.replicate, List.cons_append, List.nil_append, List.append_nil, List.getElem?_cons_zero, List.getElem?_cons_succ, List.set_cons_zero, List.set_cons_succ, Nat.sub_self, Nat.reduceSub, Nat.reduceAdd, wipeE, Bool.true_and]
  · simp only [h, decide_false, mkF, env0, dSeq, dSet, dIfS, dRet, dRetN, dExp, dBin, dUn, dVar, dC, dCons, dNil, dApp, dMet, dCall, dCallV, b_ok, b_bad, s_ok, f_rt, f_nx, dTB, dTst, dNotT, dOrT, dAndT, dAnd, dOr, dNot, dChain, dIf, dSkip, dNever, Tg.set, e_le, e_lt, e_ge, e_gt, e_add, e_sub, List.map_cons, List.map_nil, List.length_cons, List.length_nil, List.replicate, List.cons_append, List.nil_append, List.append_nil, List.getElem?_cons_zero, List.getElem?_cons_succ, List.set_cons_zero, List.set_cons_succ, Nat.sub_self, Nat.reduceSub, Nat.reduceAdd, wipeE, Bool.false_and]
theorem name_in_ok {a b : Int} (h : (decide (0 ≤ a) && decide (a ≤ 996) && decide (0 ≤ b) && decide (b ≤ 996)) = true) (s : Sto) : f_name_in [.int a, .int b] s = .ok (nameOf a b) s := by
  show s_name_in _ s = _
  unfold s_name_in
  dsimp only
  rw [if_pos h]
theorem nameOf_cl (n : Nat) (a b : Int) : clV n (nameOf a b) = true := by
  unfold nameOf
  split <;> rfl
theorem r_cells_name : Ref s_cells_name m_cells_name := Ref.of fun ps st hp hs => by
  unfold s_cells_name s_name_in
  split
  · rename_i a b
    split
    · rename_i hb
      have hb2 := hb
      simp only [Bool.and_eq_true] at hb2
      obtain ⟨⟨⟨a0, a1⟩, b0⟩, b1⟩ := hb2
      simp only [m_cells_name, d_cells_name, bo_cells_name_0, mkF, env0, dSeq, dSet, dIfS, dRet, dRetN, dExp, dBin, dUn, dVar, dC, dCons, dNil, dApp, dMet, dCall, dCallV, b_ok, b_bad, s_ok, f_rt, f_nx, dTB, dTst, dNotT, dOrT, dAndT, dAnd, dOr, dNot, dChain, dIf, dSkip, dNever, Tg.set, e_le, e_lt, e_ge, e_gt, e_add, e_sub, List.map_cons, List.map_nil, List.length_cons, List.length_nil, List.replicate, List.cons_append, List.nil_append, List.append_nil, List.getElem?_cons_zero, List.getElem?_cons_succ, List.set_cons_zero, List.set_cons_succ, Nat.sub_self, Nat.reduceSub, Nat.reduceAdd, wipeE, dFor, dIt, e_tup2, itOf, forV, Nat.beq, if_true, cell_ok, a0, a1, b0, b1, Bool.and_true, pTru, Bool.not_true, name_in_ok hb]
      exact ⟨[], by rw [List.append_nil], nameOf_cl _ _ _, hs, Nat.le_refl _⟩
    · trivial
  · trivial
/-! ### this law's own figures -/
theorem e_setL {s : Sto} {k m : Nat} {j : Int} {xs : List PV} {v : PV} (h : s[k]? = some (.lst xs)) (hm : ixN xs.length j = some m) : pSetL (.ref k) (.int j) v s = some (s.set k (.lst (xs.set m v))) := by
  unfold pSetL
  dsimp only
  rw [h]
  dsimp only
  rw [hm]
theorem e_ixT {xs : List PV} {i : Int} {v : PV} (s : Sto) (hi : atI xs i = some v) : pIx (.tup xs) (.int i) s = .ok v s := by
  show (match atI xs i with
    | some v => Res.ok v s
    | none => .bad) = _
  rw [hi]
theorem e_fdiv2 (i : Int) (st : Sto) : pFdiv (.int i) (.int 2) st = .ok (.int (i / 2)) st := e_fdiv st rfl
theorem e_mod2 (i : Int) (st : Sto) : pMod (.int i) (.int 2) st = .ok (.int (i % 2)) st := e_mod st (by decide)
theorem fig_step {c : Nat} (hc : c ∈ lets) {x : PV} {i j f u : Int} {L L' : List PV} (m : Nat) (hi : i / 2 = j) (hf : atI [PV.int 27, PV.int 1] (i % 2) = some (.int f)) (hu : atI L j = some (.int u)) (hm : ixN L.length j = some m) (hL : L' = L.set m (.int (u + f * ((c : Int) - 96)))) (hfm : f = 27 ∨ f = 1) (st : Sto) :
    (dSub pSetL (dVar 1) (dBin pFdiv (dVar 2) (dC (.int 2))) (dBin pAdd (dBin pIx (dVar 1) (dBin pFdiv (dVar 2) (dC (.int 2)))) (dBin pMul (dBin pIx (dApp fTup (dCons (dC (.int 27)) (dCons (dC (.int 1)) (dNil)))) (dBin pMod (dVar 2) (dC (.int 2)))) (dBin pAdd (dMet isStr mSIndex (dC (.str [97, 98, 99, 100, 101, 102, 103, 104, 105, 106, 107, 108, 109, 110, 111, 112, 113, 114, 115, 116, 117, 118, 119, 120, 121, 122])) (dCons (dVar 3) (dNil))) (dC (.int 1)))))) noTh [some x, some (.ref st.length), some (.int i), some (.str [c])] (st ++ [.lst L]) = .nx [some x, some (.ref st.length), some (.int i), some (.str [c])] (st ++ [.lst L']) := by
  have hb := lets_ge c hc
  have l0 : lstAt (st ++ [.lst L]) st.length = some L := lst_end st _ []
  have e : ((c - 97 : Nat) : Int) + 1 = (c : Int) - 96 := by omega
  have hcm : cMul f ((c : Int) - 96) = true := by
    unfold cMul
    refine decide_eq_true ?_
    have h1 := Nat.log2_le_self ((c : Int) - 96).natAbs
    have h2 := Nat.log2_le_self f.natAbs
    rcases hfm with rfl | rfl <;> omega
  have g0 : (st ++ [SO.lst L])[st.length]? = some (.lst L) := get_end st _ []
  simp only [dSub, mkF, env0, dSeq, dSet, dIfS, dRet, dRetN, dExp, dBin, dUn, dVar, dC, dCons, dNil, dApp, dMet, dCall, dCallV, b_ok, b_bad, s_ok, f_rt, f_nx, dTB, dTst, dNotT, dOrT, dAndT, dAnd, dOr, dNot, dChain, dIf, dSkip, dNever, Tg.set, e_le, e_lt, e_ge, e_gt, e_add, e_sub, List.map_cons, List.map_nil, List.length_cons, List.length_nil, List.replicate, List.cons_append, List.nil_append, List.append_nil, List.getElem?_cons_zero, List.getElem?_cons_succ, List.set_cons_zero, List.set_cons_succ, Nat.sub_self, Nat.reduceSub, Nat.reduceAdd, wipeE, isStr, if_true, e_fdiv2, e_mod2, e_tup2, e_idx hc, e, hi]
  rw [e_ixR l0 hu]
  simp only [mkF, env0, dSeq, dSet, dIfS, dRet, dRetN, dExp, dBin, dUn, dVar, dC, dCons, dNil, dApp, dMet, dCall, dCallV, b_ok, b_bad, s_ok, f_rt, f_nx, dTB, dTst, dNotT, dOrT, dAndT, dAnd, dOr, dNot, dChain, dIf, dSkip, dNever, Tg.set, e_le, e_lt, e_ge, e_gt, e_add, e_sub, List.map_cons, List.map_nil, List.length_cons, List.length_nil, List.replicate, List.cons_append, List.nil_append, List.append_nil, List.getElem?_cons_zero, List.getElem?_cons_succ, List.set_cons_zero, List.set_cons_succ, Nat.sub_self, Nat.reduceSub, Nat.reduceAdd, wipeE]
  rw [e_ixT _ hf]
  simp only [mkF, env0, dSeq, dSet, dIfS, dRet, dRetN, dExp, dBin, dUn, dVar, dC, dCons, dNil, dApp, dMet, dCall, dCallV, b_ok, b_bad, s_ok, f_rt, f_nx, dTB, dTst, dNotT, dOrT, dAndT, dAnd, dOr, dNot, dChain, dIf, dSkip, dNever, Tg.set, e_le, e_lt, e_ge, e_gt, e_add, e_sub, List.map_cons, List.map_nil, List.length_cons, List.length_nil, List.replicate, List.cons_append, List.nil_append, List.append_nil, List.getElem?_cons_zero, List.getElem?_cons_succ, List.set_cons_zero, List.set_cons_succ, Nat.sub_self, Nat.reduceSub, Nat.reduceAdd, wipeE, e_mul _ hcm]
  rw [e_setL g0 hm, set_end, ← hL]
theorem r_figures : Ref s_figures m__law_figures := Ref.of fun ps st hp hs => by
  unfold s_figures s_cells_in
  split
  · rename_i x
    split
    · rename_i hn
      obtain ⟨hx, h1, h4⟩ := nm_lets hn
      simp only [m__law_figures, d__law_figures, bo__law_figures_0, mkF, env0, dSeq, dSet, dIfS, dRet, dRetN, dExp, dBin, dUn, dVar, dC, dCons, dNil, dApp, dMet, dCall, dCallV, b_ok, b_bad, s_ok, f_rt, f_nx, dTB, dTst, dNotT, dOrT, dAndT, dAnd, dOr, dNot, dChain, dIf, dSkip, dNever, Tg.set, e_le, e_lt, e_ge, e_gt, e_add, e_sub, List.map_cons, List.map_nil, List.length_cons, List.length_nil, List.replicate, List.cons_append, List.nil_append, List.append_nil, List.getElem?_cons_zero, List.getElem?_cons_succ, List.set_cons_zero, List.set_cons_succ, Nat.sub_self, Nat.reduceSub, Nat.reduceAdd, wipeE]
      rw [e_lst rfl]
      simp only [mkF, env0, dSeq, dSet, dIfS, dRet, dRetN, dExp, dBin, dUn, dVar, dC, dCons, dNil, dApp, dMet, dCall, dCallV, b_ok, b_bad, s_ok, f_rt, f_nx, dTB, dTst, dNotT, dOrT, dAndT, dAnd, dOr, dNot, dChain, dIf, dSkip, dNever, Tg.set, e_le, e_lt, e_ge, e_gt, e_add, e_sub, List.map_cons, List.map_nil, List.length_cons, List.length_nil, List.replicate, List.cons_append, List.nil_append, List.append_nil, List.getElem?_cons_zero, List.getElem?_cons_succ, List.set_cons_zero, List.set_cons_succ, Nat.sub_self, Nat.reduceSub, Nat.reduceAdd, wipeE, dFor, dRng, fEn]
      have fin : ∀ (u v : Int), u = cellA x → v = cellB x → ∀ (y z w : Option PV), LeR st.length (.ok (pair (cellA x) (cellB x)) st) ((Res.s [y, some (.ref st.length), z, w] (fTuple [.ref st.length] (st ++ [.lst [.int u, .int v]])) fun v st => RS.rt v st).fin) := by
        intro u v eu ev y z w
        have l0 : lstAt (st ++ [.lst [.int u, .int v]]) st.length = some [.int u, .int v] := lst_end st _ []
        have e : fTuple [.ref st.length] (st ++ [.lst [.int u, .int v]]) = .ok (pair u v) (st ++ [.lst [.int u, .int v]]) := by
          unfold fTuple
          dsimp only [seqOf]
          rw [l0]
          rfl
        rw [e, eu, ev]
        exact ⟨_, rfl, rfl, hs, Nat.le_refl _⟩
      match x, h1, h4, hx, fin with
      | [a], _, _, hx, fin =>
        have s0 := fun x : PV => fig_step (c := a) (hx a (by simp)) (x := x) (i := 0) (j := 0) (f := 27) (u := 0) (L := [.int 0, .int 0]) 0 rfl rfl rfl rfl rfl (.inl rfl) st
        simp only [mkF, env0, dSeq, dSet, dIfS, dRet, dRetN, dExp, dBin, dUn, dVar, dC, dCons, dNil, dApp, dMet, dCall, dCallV, b_ok, b_bad, s_ok, f_rt, f_nx, dTB, dTst, dNotT, dOrT, dAndT, dAnd, dOr, dNot, dChain, dIf, dSkip, dNever, Tg.set, e_le, e_lt, e_ge, e_gt, e_add, e_sub, List.map_cons, List.map_nil, List.length_cons, List.length_nil, List.replicate, List.cons_append, List.nil_append, List.append_nil, List.getElem?_cons_zero, List.getElem?_cons_succ, List.set_cons_zero, List.set_cons_succ, Nat.sub_self, Nat.reduceSub, Nat.reduceAdd, wipeE, enV, forV, Tg.sets, Int.reduceAdd]
        rw [s0]
        simp only [mkF, env0, dSeq, dSet, dIfS, dRet, dRetN, dExp, dBin, dUn, dVar, dC, dCons, dNil, dApp, dMet, dCall, dCallV, b_ok, b_bad, s_ok, f_rt, f_nx, dTB, dTst, dNotT, dOrT, dAndT, dAnd, dOr, dNot, dChain, dIf, dSkip, dNever, Tg.set, e_le, e_lt, e_ge, e_gt, e_add, e_sub, List.map_cons, List.map_nil, List.length_cons, List.length_nil, List.replicate, List.cons_append, List.nil_append, List.append_nil, List.getElem?_cons_zero, List.getElem?_cons_succ, List.set_cons_zero, List.set_cons_succ, Nat.sub_self, Nat.reduceSub, Nat.reduceAdd, wipeE, forV]
        refine fin _ _ ?_ ?_ _ _ _ <;> simp [cellA, cellB, fig]
      | [a, b], _, _, hx, fin =>
        have s0 := fun x : PV => fig_step (c := a) (hx a (by simp)) (x := x) (i := 0) (j := 0) (f := 27) (u := 0) (L := [.int 0, .int 0]) 0 rfl rfl rfl rfl rfl (.inl rfl) st
        have s1 := fun x : PV => fig_step (c := b) (hx b (by simp)) (x := x) (i := 1) (j := 0) (f := 1) (L := [.int (0 + 27 * ((a : Int) - 96)), .int 0]) 0 rfl rfl rfl rfl rfl (.inr rfl) st
        simp only [mkF, env0, dSeq, dSet, dIfS, dRet, dRetN, dExp, dBin, dUn, dVar, dC, dCons, dNil, dApp, dMet, dCall, dCallV, b_ok, b_bad, s_ok, f_rt, f_nx, dTB, dTst, dNotT, dOrT, dAndT, dAnd, dOr, dNot, dChain, dIf, dSkip, dNever, Tg.set, e_le, e_lt, e_ge, e_gt, e_add, e_sub, List.map_cons, List.map_nil, List.length_cons, List.length_nil, List.replicate, List.cons_append, List.nil_append, List.append_nil, List.getElem?_cons_zero, List.getElem?_cons_succ, List.set_cons_zero, List.set_cons_succ, Nat.sub_self, Nat.reduceSub, Nat.reduceAdd, wipeE, enV, forV, Tg.sets, Int.reduceAdd]
        rw [s0]
        simp only [mkF, env0, dSeq, dSet, dIfS, dRet, dRetN, dExp, dBin, dUn, dVar, dC, dCons, dNil, dApp, dMet, dCall, dCallV, b_ok, b_bad, s_ok, f_rt, f_nx, dTB, dTst, dNotT, dOrT, dAndT, dAnd, dOr, dNot, dChain, dIf, dSkip, dNever, Tg.set, e_le, e_lt, e_ge, e_gt, e_add, e_sub, List.map_cons, List.map_nil, List.length_cons, List.length_nil, List.replicate, List.cons_append, List.nil_append, List.append_nil, List.getElem?_cons_zero, List.getElem?_cons_succ, List.set_cons_zero, List.set_cons_succ, Nat.sub_self, Nat.reduceSub, Nat.reduceAdd, wipeE, forV, Tg.sets]
        rw [s1]
        simp only [mkF, env0, dSeq, dSet, dIfS, dRet, dRetN, dExp, dBin, dUn, dVar, dC, dCons, dNil, dApp, dMet, dCall, dCallV, b_ok, b_bad, s_ok, f_rt, f_nx, dTB, dTst, dNotT, dOrT, dAndT, dAnd, dOr, dNot, dChain, dIf, dSkip, dNever, Tg.set, e_le, e_lt, e_ge, e_gt, e_add, e_sub, List.map_cons, List.map_nil, List.length_cons, List.length_nil, List.replicate, List.cons_append, List.nil_append, List.append_nil, List.getElem?_cons_zero, List.getElem?_cons_succ, List.set_cons_zero, List.set_cons_succ, Nat.sub_self, Nat.reduceSub, Nat.reduceAdd, wipeE, forV]
        refine fin _ _ ?_ ?_ _ _ _ <;> simp [cellA, cellB, fig]
      | [a, b, c], _, _, hx, fin =>
        have s0 := fun x : PV => fig_step (c := a) (hx a (by simp)) (x := x) (i := 0) (j := 0) (f := 27) (u := 0) (L := [.int 0, .int 0]) 0 rfl rfl rfl rfl rfl (.inl rfl) st
        have s1 := fun x : PV => fig_step (c := b) (hx b (by simp)) (x := x) (i := 1) (j := 0) (f := 1) (L := [.int (0 + 27 * ((a : Int) - 96)), .int 0]) 0 rfl rfl rfl rfl rfl (.inr rfl) st
        have s2 := fun x : PV => fig_step (c := c) (hx c (by simp)) (x := x) (i := 2) (j := 1) (f := 27) (L := [.int (0 + 27 * ((a : Int) - 96) + 1 * ((b : Int) - 96)), .int 0]) 1 rfl rfl rfl rfl rfl (.inl rfl) st
        simp only [mkF, env0, dSeq, dSet, dIfS, dRet, dRetN, dExp, dBin, dUn, dVar, dC, dCons, dNil, dApp, dMet, dCall, dCallV, b_ok, b_bad, s_ok, f_rt, f_nx, dTB, dTst, dNotT, dOrT, dAndT, dAnd, dOr, dNot, dChain, dIf, dSkip, dNever, Tg.set, e_le, e_lt, e_ge, e_gt, e_add, e_sub, List.map_cons, List.map_nil, List.length_cons, List.length_nil, List.replicate, List.cons_append, List.nil_append, List.append_nil, List.getElem?_cons_zero, List.getElem?_cons_succ, List.set_cons_zero, List.set_cons_succ, Nat.sub_self, Nat.reduceSub, Nat.reduceAdd, wipeE, enV, forV, Tg.sets, Int.reduceAdd]
        rw [s0]
        simp only [mkF, env0, dSeq, dSet, dIfS, dRet, dRetN, dExp, dBin, dUn, dVar, dC, dCons, dNil, dApp, dMet, dCall, dCallV, b_ok, b_bad, s_ok, f_rt, f_nx, dTB, dTst, dNotT, dOrT, dAndT, dAnd, dOr, dNot, dChain, dIf, dSkip, dNever, Tg.set, e_le, e_lt, e_ge, e_gt, e_add, e_sub, List.map_cons, List.map_nil, List.length_cons, List.length_nil, List.replicate, List.cons_append, List.nil_append, List.append_nil, List.getElem?_cons_zero, List.getElem?_cons_succ, List.set_cons_zero, List.set_cons_succ, Nat.sub_self, Nat.reduceSub, Nat.reduceAdd, wipeE, forV, Tg.sets]
        rw [s1]
        simp only [mkF, env0, dSeq, dSet, dIfS, dRet, dRetN, dExp, dBin, dUn, dVar, dC, dCons, dNil, dApp, dMet, dCall, dCallV, b_ok, b_bad, s_ok, f_rt, f_nx, dTB, dTst, dNotT, dOrT, dAndT, dAnd, dOr, dNot, dChain, dIf, dSkip, dNever, Tg.set, e_le, e_lt, e_ge, e_gt, e_add, e_sub, List.map_cons, List.map_nil, List.length_cons, List.length_nil, List.replicate, List.cons_append, List.nil_append, List.append_nil, List.getElem?_cons_zero, List.getElem?_cons_succ, List.set_cons_zero, List.set_cons_succ, Nat.sub_self, Nat.reduceSub, Nat.reduceAdd, wipeE, forV, Tg.sets]
        rw [s2]
        simp only [mkF, env0, dSeq, dSet, dIfS, dRet, dRetN, dExp, dBin, dUn, dVar, dC, dCons, dNil, dApp, dMet, dCall, dCallV, b_ok, b_bad, s_ok, f_rt, f_nx, dTB, dTst, dNotT, dOrT, dAndT, dAnd, dOr, dNot, dChain, dIf, dSkip, dNever, Tg.set, e_le, e_lt, e_ge, e_gt, e_add, e_sub, List.map_cons, List.map_nil, List.length_cons, List.length_nil, List.replicate, List.cons_append, List.nil_append, List.append_nil, List.getElem?_cons_zero, List.getElem?_cons_succ, List.set_cons_zero, List.set_cons_succ, Nat.sub_self, Nat.reduceSub, Nat.reduceAdd, wipeE, forV]
        refine fin _ _ ?_ ?_ _ _ _ <;> simp [cellA, cellB, fig]
      | [a, b, c, d], _, _, hx, fin =>
        have s0 := fun x : PV => fig_step (c := a) (hx a (by simp)) (x := x) (i := 0) (j := 0) (f := 27) (u := 0) (L := [.int 0, .int 0]) 0 rfl rfl rfl rfl rfl (.inl rfl) st
        have s1 := fun x : PV => fig_step (c := b) (hx b (by simp)) (x := x) (i := 1) (j := 0) (f := 1) (L := [.int (0 + 27 * ((a : Int) - 96)), .int 0]) 0 rfl rfl rfl rfl rfl (.inr rfl) st
        have s2 := fun x : PV => fig_step (c := c) (hx c (by simp)) (x := x) (i := 2) (j := 1) (f := 27) (L := [.int (0 + 27 * ((a : Int) - 96) + 1 * ((b : Int) - 96)), .int 0]) 1 rfl rfl rfl rfl rfl (.inl rfl) st
        have s3 := fun x : PV => fig_step (c := d) (hx d (by simp)) (x := x) (i := 3) (j := 1) (f := 1) (L := [.int (0 + 27 * ((a : Int) - 96) + 1 * ((b : Int) - 96)), .int (0 + 27 * ((c : Int) - 96))]) 1 rfl rfl rfl rfl rfl (.inr rfl) st
        simp only [mkF, env0, dSeq, dSet, dIfS, dRet, dRetN, dExp, dBin, dUn, dVar, dC, dCons, dNil, dApp, dMet, dCall, dCallV, b_ok, b_bad, s_ok, f_rt, f_nx, dTB, dTst, dNotT, dOrT, dAndT, dAnd, dOr, dNot, dChain, dIf, dSkip, dNever, Tg.set, e_le, e_lt, e_ge, e_gt, e_add, e_sub, List.map_cons, List.map_nil, List.length_cons, List.length_nil, List.replicate, List.cons_append, List.nil_append, List.append_nil, List.getElem?_cons_zero, List.getElem?_cons_succ, List.set_cons_zero, List.set_cons_succ, Nat.sub_self, Nat.reduceSub, Nat.reduceAdd, wipeE, enV, forV, Tg.sets, Int.reduceAdd]
        rw [s0]
        simp only [mkF, env0, dSeq, dSet, dIfS, dRet, dRetN, dExp, dBin, dUn, dVar, dC, dCons, dNil, dApp, dMet, dCall, dCallV, b_ok, b_bad, s_ok, f_rt, f_nx, dTB, dTst, dNotT, dOrT, dAndT, dAnd, dOr, dNot, dChain, dIf, dSkip, dNever, Tg.set, e_le, e_lt, e_ge, e_gt, e_add, e_sub, List.map_cons, List.map_nil, List.length_cons, List.length_nil, List.replicate, List.cons_append, List.nil_append, List.append_nil, List.getElem?_cons_zero, List.getElem?_cons_succ, List.set_cons_zero, List.set_cons_succ, Nat.sub_self, Nat.reduceSub, Nat.reduceAdd, wipeE, forV, Tg.sets]
        rw [s1]
        simp only [mkF, env0, dSeq, dSet, dIfS, dRet, dRetN, dExp, dBin, dUn, dVar, dC, dCons, dNil, dApp, dMet, dCall, dCallV, b_ok, b_bad, s_ok, f_rt, f_nx, dTB, dTst, dNotT, dOrT, dAndT, dAnd, dOr, dNot, dChain, dIf, dSkip, dNever, Tg.set, e_le, e_lt, e_ge, e_gt, e_add, e_sub, List.map_cons, List.map_nil, List.length_cons, List.length_nil, List.replicate, List.cons_append, List.nil_append, List.append_nil, List.getElem?_cons_zero, List.getElem?_cons_succ, List.set_cons_zero, List.set_cons_succ, Nat.sub_self, Nat.reduceSub, Nat.reduceAdd, wipeE, forV, Tg.sets]
        rw [s2]
        simp only [mkF, env0, dSeq, dSet, dIfS, dRet, dRetN, dExp, dBin, dUn, dVar, dC, dCons, dNil, dApp, dMet, dCall, dCallV, b_ok, b_bad, s_ok, f_rt, f_nx, dTB, dTst, dNotT, dOrT, dAndT, dAnd, dOr, dNot, dChain, dIf, dSkip, dNever, Tg.set, e_le, e_lt, e_ge, e_gt, e_add, e_sub, List.map_cons, List.map_nil, List.length_cons, List.length_nil, List.replicate, List.cons_append, List.nil_append, List.append_nil, List.getElem?_cons_zero, List.getElem?_cons_succ, List.set_cons_zero, List.set_cons_succ, Nat.sub_self, Nat.reduceSub, Nat.reduceAdd, wipeE, forV, Tg.sets]
        rw [s3]
        simp only [mkF, env0, dSeq, dSet, dIfS, dRet, dRetN, dExp, dBin, dUn, dVar, dC, dCons, dNil, dApp, dMet, dCall, dCallV, b_ok, b_bad, s_ok, f_rt, f_nx, dTB, dTst, dNotT, dOrT, dAndT, dAnd, dOr, dNot, dChain, dIf, dSkip, dNever, Tg.set, e_le, e_lt, e_ge, e_gt, e_add, e_sub, List.map_cons, List.map_nil, List.length_cons, List.length_nil, List.replicate, List.cons_append, List.nil_append, List.append_nil, List.getElem?_cons_zero, List.getElem?_cons_succ, List.set_cons_zero, List.set_cons_succ, Nat.sub_self, Nat.reduceSub, Nat.reduceAdd, wipeE, forV]
        refine fin _ _ ?_ ?_ _ _ _ <;> simp [cellA, cellB, fig]
    · trivial
  · trivial
end K01
end
section
set_option maxRecDepth 100000
set_option maxHeartbeats 4000000
namespace K01
open PySem PySem.Spec PyProof.Rows L2 Mi
theorem strip_list (goes : Nat → Bool) (l r : Bool) (s : List Nat) : ofS (Txt.stripBy goes l r (toS s)) = (s.drop (if l then (s.takeWhile goes).length else 0)).take ((if r then s.length - ((s.drop (if l then (s.takeWhile goes).length else 0)).reverse.takeWhile goes).length else s.length) - (if l then (s.takeWhile goes).length else 0)) := by
  rw [PyProof.Rows.stripBy_eq]
  have e : (toS s).cps.toList = s := by simp
  have e2 : (toS s).length = s.length := str_len s
  unfold stripHi stripLo
  rw [e, e2]
  show (s.toArray.extract _ _).toList = _
  simp [List.extract_eq_take_drop]
theorem space32 : Unicode.isSpace 32 = true := by decide +kernel
theorem space_let : ∀ c ∈ lets, Unicode.isSpace c = false := by decide +kernel
/-- the sign of a figure: a space, or a letter -/
def sg (f : Int) : Nat := if f = 0 then 32 else (f + 96).toNat
theorem sg0 : sg 0 = 32 := rfl
theorem sg_pos {f : Int} (h : 0 < f) (h2 : f ≤ 26) : sg f = (f + 96).toNat ∧ Unicode.isSpace (sg f) = false ∧ sg f ≠ 32 := by
  have e : sg f = (f + 96).toNat := if_neg (by omega)
  have key : ∀ n : Nat, n < 26 → (n + 97) ∈ lets := by decide
  have hm := key (f - 1).toNat (by omega)
  have e2 : (f - 1).toNat + 97 = (f + 96).toNat := by omega
  rw [e2] at hm
  exact ⟨e, by rw [e]; exact space_let _ hm, by rw [e]; omega⟩
theorem at27 {f : Int} (h : 0 ≤ f) (h2 : f ≤ 26) : atI ([32, 97, 98, 99, 100, 101, 102, 103, 104, 105, 106, 107, 108, 109, 110, 111, 112, 113, 114, 115, 116, 117, 118, 119, 120, 121, 122] : List Nat) f = some (sg f) := by
  have key : ∀ n : Nat, n < 27 → (32 :: lets)[n]? = some (sg (n : Int)) := by decide
  show atI (32 :: lets) f = _
  unfold atI ixN
  rw [if_pos h, if_pos (show f < (((32 :: lets).length : Nat) : Int) by show f < 27; omega)]
  show (32 :: lets)[f.toNat]? = _
  rw [key _ (by omega)]
  congr 2
  omega
theorem e_addS {a b : List Nat} (st : Sto) (h : szOk (a.length + b.length) = true) : pAdd (.str a) (.str b) st = .ok (.str (a ++ b)) st := by
  show (if szOk (a.length + b.length) = true then _ else _) = _
  rw [if_pos h]
theorem ne_str (x y : List Nat) (st : Sto) : pNe (.str x) (.str y) st = .ok (.bl (!decide (x = y))) st := rfl
theorem notin_sg (x : List Nat) (st : Sto) : pNotIn (.str [32]) (.str x) st = .ok (.bl (!decide (32 ∈ x))) st := rfl
theorem e_str0 {f : Str → Str} {x : List Nat} (st : Sto) (h : szOk x.length = true) : mStr0 f (.str x) [] st = .ok (.str (ofS (f (toS x)))) st := by
  show (if szOk x.length = true then _ else _) = _
  rw [if_pos h]
/-- what the four signs come to -/
theorem sp_strip {p q r s : Int} (hp : 0 ≤ p) (hq : 0 ≤ q) (hr : 0 ≤ r) (hs : 0 ≤ s) (hp2 : p ≤ 26) (hq2 : q ≤ 26) (hr2 : r ≤ 26) (hs2 : s ≤ 26) (h0 : 0 < p) :
    ofS (Txt.strip (toS [sg p, sg q, sg r, sg s])) = ofS (Txt.rstrip (toS [sg p, sg q, sg r, sg s])) ∧ ((0 < q ∨ (q = 0 ∧ r = 0)) ∧ (0 < r ∨ (r = 0 ∧ s = 0)) → 32 ∉ ofS (Txt.rstrip (toS [sg p, sg q, sg r, sg s])) ∧ ofS (Txt.rstrip (toS [sg p, sg q, sg r, sg s])) = sp4 p q r s) ∧
      (¬ ((0 < q ∨ (q = 0 ∧ r = 0)) ∧ (0 < r ∨ (r = 0 ∧ s = 0))) → 32 ∈ ofS (Txt.rstrip (toS [sg p, sg q, sg r, sg s]))) := by
  unfold Txt.strip Txt.rstrip
  rw [strip_list, strip_list]
  obtain ⟨p1, p2, p3⟩ := sg_pos h0 hp2
  unfold sp4
  by_cases h2 : 0 < q <;> by_cases h3 : 0 < r <;> by_cases h4 : 0 < s
  all_goals
    first
      | (obtain ⟨q1, q2, q3⟩ := sg_pos h2 hq2)
      | (have q0 : q = 0 := by omega
         subst q0)
    first
      | (obtain ⟨r1, r2, r3⟩ := sg_pos h3 hr2)
      | (have r0 : r = 0 := by omega
         subst r0)
    first
      | (obtain ⟨s1, s2, s3⟩ := sg_pos h4 hs2)
      | (have s0 : s = 0 := by omega
         subst s0)
    simp_all [sg0, space32, List.takeWhile] <;> omega
theorem r_spelled : Ref s_spelled m__law_spelled := Ref.of fun ps st hp hs => by
  unfold s_spelled s_name_in
  split
  · rename_i a b
    split
    · rename_i hb
      simp only [Bool.and_eq_true, decide_eq_true_eq] at hb
      obtain ⟨⟨⟨a0, a1⟩, b0⟩, b1⟩ := hb
      have fin : ∀ v g, v = nameOf a b → LeR st.length (.ok (nameOf a b) st) (.ok v (st ++ g)) := fun v g e => by
        rw [e]
        exact ⟨g, rfl, nameOf_cl _ _ _, hs, Nat.le_refl _⟩
      have fin0 : ∀ v, v = nameOf a b → LeR st.length (.ok (nameOf a b) st) (.ok v st) := fun v e => by
        have := fin v [] e
        rw [List.append_nil] at this
        exact this
      simp only [m__law_spelled, d__law_spelled, mkF, env0, dSeq, dSet, dIfS, dRet, dRetN, dExp, dBin, dUn, dVar, dC, dCons, dNil, dApp, dMet, dCall, dCallV, b_ok, b_bad, s_ok, f_rt, f_nx, dTB, dTst, dNotT, dOrT, dAndT, dAnd, dOr, dNot, dChain, dIf, dSkip, dNever, Tg.set, e_le, e_lt, e_ge, e_gt, e_add, e_sub, List.map_cons, List.map_nil, List.length_cons, List.length_nil, List.replicate, List.cons_append, List.nil_append, List.append_nil, List.getElem?_cons_zero, List.getElem?_cons_succ, List.set_cons_zero, List.set_cons_succ, Nat.sub_self, Nat.reduceSub, Nat.reduceAdd, wipeE]
      by_cases hlt : a < 729 ∧ b < 729
      · obtain ⟨ha, hb⟩ := hlt
        simp only [show ¬ (728 < a) by omega, show ¬ (728 < b) by omega, decide_false, mkF, env0, dSeq, dSet, dIfS, dRet, dRetN, dExp, dBin, dUn, dVar, dC, dCons, dNil, dApp, dMet, dCall, dCallV, b_ok, b_bad, s_ok, f_rt, f_nx, dTB, dTst, dNotT, dOrT, dAndT, dAnd, dOr, dNot, dChain, dIf, dSkip, dNever, Tg.set, e_le, e_lt, e_ge, e_gt, e_add, e_sub, List.map_cons, List.map_nil, List.length_cons, List.length_nil, List.replicate, List.cons_append, List.nil_append, List.append_nil, List.getElem?_cons_zero, List.getElem?_cons_succ, List.set_cons_zero, List.set_cons_succ, Nat.sub_self, Nat.reduceSub, Nat.reduceAdd, wipeE, e_fdiv27, e_mod27]
        have i0 := fun s : Sto => e_ixS (s := s) rfl (at27 (f := a / 27) (by omega) (by omega))
        have i1 := fun s : Sto => e_ixS (s := s) rfl (at27 (f := a % 27) (by omega) (by omega))
        have i2 := fun s : Sto => e_ixS (s := s) rfl (at27 (f := b / 27) (by omega) (by omega))
        have i3 := fun s : Sto => e_ixS (s := s) rfl (at27 (f := b % 27) (by omega) (by omega))
        simp only [i0, i1, i2, i3, mkF, env0, dSeq, dSet, dIfS, dRet, dRetN, dExp, dBin, dUn, dVar, dC, dCons, dNil, dApp, dMet, dCall, dCallV, b_ok, b_bad, s_ok, f_rt, f_nx, dTB, dTst, dNotT, dOrT, dAndT, dAnd, dOr, dNot, dChain, dIf, dSkip, dNever, Tg.set, e_le, e_lt, e_ge, e_gt, e_add, e_sub, List.map_cons, List.map_nil, List.length_cons, List.length_nil, List.replicate, List.cons_append, List.nil_append, List.append_nil, List.getElem?_cons_zero, List.getElem?_cons_succ, List.set_cons_zero, List.set_cons_succ, Nat.sub_self, Nat.reduceSub, Nat.reduceAdd, wipeE]
        rw [e_addS _ rfl]
        simp only [mkF, env0, dSeq, dSet, dIfS, dRet, dRetN, dExp, dBin, dUn, dVar, dC, dCons, dNil, dApp, dMet, dCall, dCallV, b_ok, b_bad, s_ok, f_rt, f_nx, dTB, dTst, dNotT, dOrT, dAndT, dAnd, dOr, dNot, dChain, dIf, dSkip, dNever, Tg.set, e_le, e_lt, e_ge, e_gt, e_add, e_sub, List.map_cons, List.map_nil, List.length_cons, List.length_nil, List.replicate, List.cons_append, List.nil_append, List.append_nil, List.getElem?_cons_zero, List.getElem?_cons_succ, List.set_cons_zero, List.set_cons_succ, Nat.sub_self, Nat.reduceSub, Nat.reduceAdd, wipeE]
        rw [e_addS _ rfl]
        simp only [mkF, env0, dSeq, dSet, dIfS, dRet, dRetN, dExp, dBin, dUn, dVar, dC, dCons, dNil, dApp, dMet, dCall, dCallV, b_ok, b_bad, s_ok, f_rt, f_nx, dTB, dTst, dNotT, dOrT, dAndT, dAnd, dOr, dNot, dChain, dIf, dSkip, dNever, Tg.set, e_le, e_lt, e_ge, e_gt, e_add, e_sub, List.map_cons, List.map_nil, List.length_cons, List.length_nil, List.replicate, List.cons_append, List.nil_append, List.append_nil, List.getElem?_cons_zero, List.getElem?_cons_succ, List.set_cons_zero, List.set_cons_succ, Nat.sub_self, Nat.reduceSub, Nat.reduceAdd, wipeE]
        rw [e_addS _ rfl]
        simp only [mkF, env0, dSeq, dSet, dIfS, dRet, dRetN, dExp, dBin, dUn, dVar, dC, dCons, dNil, dApp, dMet, dCall, dCallV, b_ok, b_bad, s_ok, f_rt, f_nx, dTB, dTst, dNotT, dOrT, dAndT, dAnd, dOr, dNot, dChain, dIf, dSkip, dNever, Tg.set, e_le, e_lt, e_ge, e_gt, e_add, e_sub, List.map_cons, List.map_nil, List.length_cons, List.length_nil, List.replicate, List.cons_append, List.nil_append, List.append_nil, List.getElem?_cons_zero, List.getElem?_cons_succ, List.set_cons_zero, List.set_cons_succ, Nat.sub_self, Nat.reduceSub, Nat.reduceAdd, wipeE]
        have i4 := e_ixS (s := st) (x := [sg (a / 27), sg (a % 27), sg (b / 27), sg (b % 27)]) (i := 0) rfl rfl
        have okp : okPair a b = decide (0 < a / 27 ∧ (0 < a % 27 ∨ (a % 27 = 0 ∧ b / 27 = 0)) ∧ (0 < b / 27 ∨ (b / 27 = 0 ∧ b % 27 = 0))) := by
          show (decide (a < 729) && decide (b < 729) && decide (0 < a / 27) && (decide (0 < a % 27) || (a % 27 == 0 && b / 27 == 0)) && (decide (0 < b / 27) || (b / 27 == 0 && b % 27 == 0))) = _
          rw [Bool.eq_iff_iff]
          simp only [Bool.and_eq_true, Bool.or_eq_true, decide_eq_true_eq, beq_iff_eq]
          constructor
          · intro h
            omega
          · intro h
            omega
        simp only [i4, mkF, env0, dSeq, dSet, dIfS, dRet, dRetN, dExp, dBin, dUn, dVar, dC, dCons, dNil, dApp, dMet, dCall, dCallV, b_ok, b_bad, s_ok, f_rt, f_nx, dTB, dTst, dNotT, dOrT, dAndT, dAnd, dOr, dNot, dChain, dIf, dSkip, dNever, Tg.set, e_le, e_lt, e_ge, e_gt, e_add, e_sub, List.map_cons, List.map_nil, List.length_cons, List.length_nil, List.replicate, List.cons_append, List.nil_append, List.append_nil, List.getElem?_cons_zero, List.getElem?_cons_succ, List.set_cons_zero, List.set_cons_succ, Nat.sub_self, Nat.reduceSub, Nat.reduceAdd, wipeE, ne_str]
        by_cases h0 : 0 < a / 27
        · obtain ⟨p1, p2, p3⟩ := sg_pos h0 (by omega)
          have hne : decide ([sg (a / 27)] = [32]) = false := decide_eq_false (by simpa using p3)
          obtain ⟨k1, k2, k3⟩ := sp_strip (p := a / 27) (q := a % 27) (r := b / 27) (s := b % 27) (by omega) (by omega) (by omega) (by omega) (by omega) (by omega) (by omega) (by omega) h0
          have m1 := e_str0 (f := Txt.rstrip) (x := [sg (a / 27), sg (a % 27), sg (b / 27), sg (b % 27)]) st rfl
          have m2 := e_str0 (f := Txt.strip) (x := [sg (a / 27), sg (a % 27), sg (b / 27), sg (b % 27)]) st rfl
          simp only [hne, Bool.not_false, mkF, env0, dSeq, dSet, dIfS, dRet, dRetN, dExp, dBin, dUn, dVar, dC, dCons, dNil, dApp, dMet, dCall, dCallV, b_ok, b_bad, s_ok, f_rt, f_nx, dTB, dTst, dNotT, dOrT, dAndT, dAnd, dOr, dNot, dChain, dIf, dSkip, dNever, Tg.set, e_le, e_lt, e_ge, e_gt, e_add, e_sub, List.map_cons, List.map_nil, List.length_cons, List.length_nil, List.replicate, List.cons_append, List.nil_append, List.append_nil, List.getElem?_cons_zero, List.getElem?_cons_succ, List.set_cons_zero, List.set_cons_succ, Nat.sub_self, Nat.reduceSub, Nat.reduceAdd, wipeE, isStr, if_true, mRstrip, mStrip, m1, m2, notin_sg]
          by_cases hk : (0 < a % 27 ∨ (a % 27 = 0 ∧ b / 27 = 0)) ∧ (0 < b / 27 ∨ (b / 27 = 0 ∧ b % 27 = 0))
          · obtain ⟨k4, k5⟩ := k2 hk
            simp only [decide_eq_false k4, Bool.not_false, mkF, env0, dSeq, dSet, dIfS, dRet, dRetN, dExp, dBin, dUn, dVar, dC, dCons, dNil, dApp, dMet, dCall, dCallV, b_ok, b_bad, s_ok, f_rt, f_nx, dTB, dTst, dNotT, dOrT, dAndT, dAnd, dOr, dNot, dChain, dIf, dSkip, dNever, Tg.set, e_le, e_lt, e_ge, e_gt, e_add, e_sub, List.map_cons, List.map_nil, List.length_cons, List.length_nil, List.replicate, List.cons_append, List.nil_append, List.append_nil, List.getElem?_cons_zero, List.getElem?_cons_succ, List.set_cons_zero, List.set_cons_succ, Nat.sub_self, Nat.reduceSub, Nat.reduceAdd, wipeE]
            refine fin0 _ ?_
            unfold nameOf
            rw [if_pos (by rw [okp, decide_eq_true_eq]; exact ⟨h0, hk⟩), k1, k5]
            rfl
          · simp only [decide_eq_true (k3 hk), Bool.not_true, mkF, env0, dSeq, dSet, dIfS, dRet, dRetN, dExp, dBin, dUn, dVar, dC, dCons, dNil, dApp, dMet, dCall, dCallV, b_ok, b_bad, s_ok, f_rt, f_nx, dTB, dTst, dNotT, dOrT, dAndT, dAnd, dOr, dNot, dChain, dIf, dSkip, dNever, Tg.set, e_le, e_lt, e_ge, e_gt, e_add, e_sub, List.map_cons, List.map_nil, List.length_cons, List.length_nil, List.replicate, List.cons_append, List.nil_append, List.append_nil, List.getElem?_cons_zero, List.getElem?_cons_succ, List.set_cons_zero, List.set_cons_succ, Nat.sub_self, Nat.reduceSub, Nat.reduceAdd, wipeE]
            refine fin0 _ ?_
            unfold nameOf
            rw [if_neg (by rw [okp, decide_eq_true_eq]; exact fun h => hk h.2)]
        · have z : a / 27 = 0 := by omega
          have hne : decide ([sg (a / 27)] = [32]) = true := decide_eq_true (by rw [z]; rfl)
          simp only [hne, Bool.not_true, mkF, env0, dSeq, dSet, dIfS, dRet, dRetN, dExp, dBin, dUn, dVar, dC, dCons, dNil, dApp, dMet, dCall, dCallV, b_ok, b_bad, s_ok, f_rt, f_nx, dTB, dTst, dNotT, dOrT, dAndT, dAnd, dOr, dNot, dChain, dIf, dSkip, dNever, Tg.set, e_le, e_lt, e_ge, e_gt, e_add, e_sub, List.map_cons, List.map_nil, List.length_cons, List.length_nil, List.replicate, List.cons_append, List.nil_append, List.append_nil, List.getElem?_cons_zero, List.getElem?_cons_succ, List.set_cons_zero, List.set_cons_succ, Nat.sub_self, Nat.reduceSub, Nat.reduceAdd, wipeE]
          refine fin0 _ ?_
          unfold nameOf
          rw [if_neg (by rw [okp, decide_eq_true_eq]; exact fun h => h0 h.1)]
      · have e : nameOf a b = .non := by
          unfold nameOf
          rw [if_neg]
          intro h
          have h : (decide (a < 729) && decide (b < 729) && decide (0 < a / 27) && (decide (0 < a % 27) || (a % 27 == 0 && b / 27 == 0)) && (decide (0 < b / 27) || (b / 27 == 0 && b % 27 == 0))) = true := h
          simp only [Bool.and_eq_true, decide_eq_true_eq] at h
          omega
        by_cases h1 : 728 < a
        · simp only [h1, decide_true, mkF, env0, dSeq, dSet, dIfS, dRet, dRetN, dExp, dBin, dUn, dVar, dC, dCons, dNil, dApp, dMet, dCall, dCallV, b_ok, b_bad, s_ok, f_rt, f_nx, dTB, dTst, dNotT, dOrT, dAndT, dAnd, dOr, dNot, dChain, dIf, dSkip, dNever, Tg.set, e_le, e_lt, e_ge, e_gt, e_add, e_sub, List.map_cons, List.map_nil, List.length_cons, List.length_nil, List.replicate, List.cons_append, List.nil_append, List.append_nil, List.getElem?_cons_zero, List.getElem?_cons_succ, List.set_cons_zero, List.set_cons_succ, Nat.sub_self, Nat.reduceSub, Nat.reduceAdd, wipeE]
          exact fin0 _ e.symm
        · simp only [h1, show 728 < b by omega, decide_false, decide_true, mkF, env0, dSeq, dSet, dIfS, dRet, dRetN, dExp, dBin, dUn, dVar, dC, dCons, dNil, dApp, dMet, dCall, dCallV, b_ok, b_bad, s_ok, f_rt, f_nx, dTB, dTst, dNotT, dOrT, dAndT, dAnd, dOr, dNot, dChain, dIf, dSkip, dNever, Tg.set, e_le, e_lt, e_ge, e_gt, e_add, e_sub, List.map_cons, List.map_nil, List.length_cons, List.length_nil, List.replicate, List.cons_append, List.nil_append, List.append_nil, List.getElem?_cons_zero, List.getElem?_cons_succ, List.set_cons_zero, List.set_cons_succ, Nat.sub_self, Nat.reduceSub, Nat.reduceAdd, wipeE]
          exact fin0 _ e.symm
    · trivial
  · trivial
end K01
end
section
set_option maxRecDepth 100000
set_option maxHeartbeats 4000000
namespace K01
open PySem PySem.Spec PyProof.Rows L2 Mi
/-! ### the well -/
def Fz (st : Sto) : Prop := ∃ ns : List Int, st[0]? = some (.fz (ns.map .int))
theorem Fz.ne0 {st : Sto} {k : Nat} {xs : List PV} (h : Fz st) (hk : st[k]? = some (.lst xs)) : k ≠ 0 := by
  rintro rfl
  obtain ⟨ns, h⟩ := h
  rw [h] at hk
  cases hk
theorem Fz.set {st : Sto} {k : Nat} {o : SO} (h : Fz st) (hk : k ≠ 0) : Fz (st.set k o) := by
  obtain ⟨ns, h⟩ := h
  exact ⟨ns, by rw [List.getElem?_set_ne hk]; exact h⟩
theorem Fz.app {st g : Sto} (h : Fz st) : Fz (st ++ g) := by
  obtain ⟨ns, h⟩ := h
  exact ⟨ns, by rw [List.getElem?_append_left (List.getElem?_eq_some_iff.mp h).1]; exact h⟩
def Well (w n : Nat) (st : Sto) : Prop := ∃ a b c : Int, st[w]? = some (.lst [.int a, .int b, .int c]) ∧ 0 ≤ c ∧ c ≤ n ∧ Fz st
def Same (w : Nat) (st st' : Sto) : Prop := st'.length = st.length ∧ ∀ i, i ≠ w → st'[i]? = st[i]?
theorem Same.set {w : Nat} {st : Sto} {o : SO} : Same w st (st.set w o) := ⟨List.length_set .., fun i h => List.getElem?_set_ne (Ne.symm h)⟩
theorem Same.trans {w : Nat} {a b c : Sto} (h : Same w a b) (k : Same w b c) : Same w a c := ⟨k.1.trans h.1, fun i hi => (k.2 i hi).trans (h.2 i hi)⟩
theorem log_small {x : Int} {k : Nat} (h : x.natAbs ≤ 2 ^ k) : x.natAbs.log2 ≤ k := by
  by_cases h0 : x.natAbs = 0
  · rw [h0]
    exact Nat.zero_le _
  · rw [← Nat.lt_succ_iff, Nat.log2_lt h0]
    exact Nat.lt_of_le_of_lt h (Nat.pow_lt_pow_right (by decide) (Nat.lt_succ_self _))
theorem cMul_small {x y : Int} {k l : Nat} (h1 : x.natAbs ≤ 2 ^ k) (h2 : y.natAbs ≤ 2 ^ l) (h : k + l < 1000000) : cMul x y = true := by
  unfold cMul
  refine decide_eq_true ?_
  have a := log_small h1
  have b := log_small h2
  omega
theorem e_int (i : Int) (st : Sto) : fInt [.int i] st = .ok (.int i) st := rfl
theorem drawn_ok {w n : Nat} {st : Sto} {m : Int} (h : Well w n st) (hn : n ≤ 100000) (hm : 0 < m) (hm2 : m ≤ 100000) : ∃ r st', f__law_drawn [.ref w, .int m] st = .ok (.int r) st' ∧ 0 ≤ r ∧ r < m ∧ Well w (n + 1) st' ∧ Same w st st' := by
  obtain ⟨a, b, c, hg, c0, cn, hz⟩ := h
  have l0 := lst_of hg
  have hw : w < st.length := (List.getElem?_eq_some_iff.mp hg).1
  have i0 := e_ixR (i := 0) l0 rfl
  have i1 := e_ixR (i := 1) l0 rfl
  have i2 := e_ixR (i := 2) l0 rfl
  have hcd : cDiv a m = true := by
    unfold cDiv
    rw [decide_eq_true hm, Bool.true_and]
    refine decide_eq_true ?_
    have := log_small (x := m) (k := 17) (by omega)
    omega
  by_cases ha : 0 < a
  · refine ⟨a % m, st.set w (.lst [.int (a / m), .int b, .int c]), ?_, Int.emod_nonneg _ (by omega), Int.emod_lt_of_pos _ hm, ⟨a / m, b, c, List.getElem?_set_self hw, c0, by omega, hz.set (hz.ne0 hg)⟩, Same.set⟩
    simp only [f__law_drawn, m__law_drawn, d__law_drawn, mkF, env0, dSeq, dSet, dIfS, dRet, dRetN, dExp, dBin, dUn, dVar, dC, dCons, dNil, dApp, dMet, dCall, dCallV, b_ok, b_bad, s_ok, f_rt, f_nx, dTB, dTst, dNotT, dOrT, dAndT, dAnd, dOr, dNot, dChain, dIf, dSkip, dNever, Tg.set, e_le, e_lt, e_ge, e_gt, e_add, e_sub, List.map_cons, List.map_nil, List.length_cons, List.length_nil, List.replicate, List.cons_append, List.nil_append, List.append_nil, List.getElem?_cons_zero, List.getElem?_cons_succ, List.set_cons_zero, List.set_cons_succ, Nat.sub_self, Nat.reduceSub, Nat.reduceAdd, wipeE, i0, ha, decide_true, e_int, e_mod _ hm, dSub, e_fdiv _ hcd]
    rw [e_setL hg rfl]
    rfl
  · have hc2 : ((c + 1 : Int)).natAbs ≤ 2 ^ 20 := by omega
    have g2 : (st.set w (.lst [.int a, .int b, .int (c + 1)]))[w]? = some (.lst [.int a, .int b, .int (c + 1)]) := List.getElem?_set_self hw
    have j1 := e_ixR (i := 1) (lst_of g2) rfl
    have j2 := e_ixR (i := 2) (lst_of g2) rfl
    have m1 := e_mul (st.set w (.lst [.int a, .int b, .int (c + 1)])) (cMul_small (x := 49979687) (y := c + 1) (k := 26) (l := 20) (by decide) hc2 (by decide))
    have hM : (0 : Int) < 2305843009213693907 := by decide
    have o1 := Int.emod_nonneg (b + 49979687 * (c + 1)) (show (2305843009213693907 : Int) ≠ 0 by decide)
    have o2 := Int.emod_lt_of_pos (b + 49979687 * (c + 1)) hM
    generalize ho : (b + 49979687 * (c + 1)) % 2305843009213693907 = one at o1 o2
    have m2 := e_mul (st.set w (.lst [.int a, .int b, .int (c + 1)])) (cMul_small (x := one) (y := one) (k := 61) (l := 61) (by omega) (by omega) (by decide))
    have q1 := Int.emod_nonneg (one * one) (show (2305843009213693951 : Int) ≠ 0 by decide)
    have q2 := Int.emod_lt_of_pos (one * one) (show (0 : Int) < 2305843009213693951 by decide)
    have m3 := e_mul (st.set w (.lst [.int a, .int b, .int (c + 1)])) (cMul_small (x := one * one % 2305843009213693951) (y := 32452867) (k := 61) (l := 25) (by omega) (by decide) (by decide))
    have m4 := e_mul (st.set w (.lst [.int a, .int b, .int (c + 1)])) (cMul_small (x := 37) (y := c + 1) (k := 6) (l := 20) (by decide) hc2 (by decide))
    have fd : ∀ (x : Int) (s : Sto), pFdiv (.int x) (.int 131071) s = .ok (.int (x / 131071)) s := fun x s => e_fdiv s rfl
    refine ⟨(one * one % 2305843009213693951 * 32452867 + one + 37 * (c + 1)) / 131071 % m, st.set w (.lst [.int a, .int b, .int (c + 1)]), ?_, Int.emod_nonneg _ (by omega), Int.emod_lt_of_pos _ hm, ⟨a, b, c + 1, g2, by omega, by omega, hz.set (hz.ne0 hg)⟩, Same.set⟩
    simp only [f__law_drawn, m__law_drawn, d__law_drawn, mkF, env0, dSeq, dSet, dIfS, dRet, dRetN, dExp, dBin, dUn, dVar, dC, dCons, dNil, dApp, dMet, dCall, dCallV, b_ok, b_bad, s_ok, f_rt, f_nx, dTB, dTst, dNotT, dOrT, dAndT, dAnd, dOr, dNot, dChain, dIf, dSkip, dNever, Tg.set, e_le, e_lt, e_ge, e_gt, e_add, e_sub, List.map_cons, List.map_nil, List.length_cons, List.length_nil, List.replicate, List.cons_append, List.nil_append, List.append_nil, List.getElem?_cons_zero, List.getElem?_cons_succ, List.set_cons_zero, List.set_cons_succ, Nat.sub_self, Nat.reduceSub, Nat.reduceAdd, wipeE, i0, i2, ha, decide_false, e_int, dSub]
    rw [e_setL (m := 2) hg rfl]
    simp only [List.set_cons_succ, List.set_cons_zero, mkF, env0, dSeq, dSet, dIfS, dRet, dRetN, dExp, dBin, dUn, dVar, dC, dCons, dNil, dApp, dMet, dCall, dCallV, b_ok, b_bad, s_ok, f_rt, f_nx, dTB, dTst, dNotT, dOrT, dAndT, dAnd, dOr, dNot, dChain, dIf, dSkip, dNever, Tg.set, e_le, e_lt, e_ge, e_gt, e_add, e_sub, List.map_cons, List.map_nil, List.length_cons, List.length_nil, List.replicate, List.cons_append, List.nil_append, List.append_nil, List.getElem?_cons_zero, List.getElem?_cons_succ, List.set_cons_zero, List.set_cons_succ, Nat.sub_self, Nat.reduceSub, Nat.reduceAdd, wipeE, j1, j2, m1, e_int, e_mod _ hM, ho, m2, e_mod _ (show (0 : Int) < 2305843009213693951 by decide), m3, m4, fd, e_mod _ hm]
theorem given_ok {w n k : Nat} {st : Sto} {xs : List PV} (h : Well w n st) (hn : n ≤ 100000) (hk : st[k]? = some (.lst xs)) (hkw : k ≠ w) (h0 : xs ≠ []) (hl : xs.length ≤ 1000) : ∃ y st', f__law_given [.ref w, .ref k] st = .ok y st' ∧ y ∈ xs ∧ Well w (n + 1) st' ∧ Same w st st' := by
  have hp : 0 < xs.length := List.length_pos_iff.mpr h0
  obtain ⟨r, st', e, r0, r1, hw, hs⟩ := drawn_ok (m := xs.length) h hn (by omega) (by omega)
  have hk' : st'[k]? = some (.lst xs) := (hs.2 k hkw).trans hk
  have hr : r.toNat < xs.length := by omega
  refine ⟨xs[r.toNat], st', ?_, List.getElem_mem hr, hw, hs⟩
  have hat : atI xs r = some xs[r.toNat] := by
    unfold atI ixN
    rw [if_pos r0, if_pos r1]
    show xs[r.toNat]? = _
    rw [List.getElem?_eq_getElem hr]
  simp only [f__law_given, m__law_given, d__law_given, mkF, env0, dSeq, dSet, dIfS, dRet, dRetN, dExp, dBin, dUn, dVar, dC, dCons, dNil, dApp, dMet, dCall, dCallV, b_ok, b_bad, s_ok, f_rt, f_nx, dTB, dTst, dNotT, dOrT, dAndT, dAnd, dOr, dNot, dChain, dIf, dSkip, dNever, Tg.set, e_le, e_lt, e_ge, e_gt, e_add, e_sub, List.map_cons, List.map_nil, List.length_cons, List.length_nil, List.replicate, List.cons_append, List.nil_append, List.append_nil, List.getElem?_cons_zero, List.getElem?_cons_succ, List.set_cons_zero, List.set_cons_succ, Nat.sub_self, Nat.reduceSub, Nat.reduceAdd, wipeE, Nat.beq, if_true, e_lenR (lst_of hk), e]
  rw [e_ixR (lst_of hk') hat]
  rfl
end K01
end
section
set_option maxRecDepth 100000
set_option maxHeartbeats 4000000
namespace K01
open PySem PySem.Spec PyProof.Rows L2 Mi
theorem cellV_ok {p : PV} (h : okV p = true) (st : Sto) : f_is_cell [p] st = .ok (.bl (cellV p)) st := by
  cases p <;> try (cases h; done)
  case int a => exact cell_ok a st
  all_goals simp only [f_is_cell, m_is_cell, d_is_cell, f_is_within, m_is_within, d_is_within, f_is_whole, m_is_whole, d_is_whole, mkF, env0, dSeq, dSet, dIfS, dRet, dRetN, dExp, dBin, dUn, dVar, dC, dCons, dNil, dApp, dMet, dCall, dCallV, b_ok, b_bad, s_ok, f_rt, f_nx, dTB, dTst, dNotT, dOrT, dAndT, dAnd, dOr, dNot, dChain, dIf, dSkip, dNever, Tg.set, e_le, e_lt, e_ge, e_gt, e_add, e_sub, List.map_cons, List.map_nil, List.length_cons, List.length_nil, List.replicate, List.cons_append, List.nil_append, List.append_nil, List.getElem?_cons_zero, List.getElem?_cons_succ, List.set_cons_zero, List.set_cons_succ, Nat.sub_self, Nat.reduceSub, Nat.reduceAdd, wipeE, Nat.beq, if_true, fIsi, tyOf, isiB, pTru, Bool.not_false, Bool.not_true, cellV]
theorem r_is_cells : Ref s_is_cells m_is_cells := Ref.of fun ps st hp hs => by
  unfold s_is_cells
  split
  · rename_i xs
    split
    · rename_i h
      rw [Bool.and_eq_true] at h
      obtain ⟨h1, h2⟩ := h
      have hz : xs.length ≤ 16777216 := Nat.le_of_ble_eq_true h2
      have hl := dLc_vals (it := dIt (dVar 0)) (i := 1) (ts := dYes) (el := dCall 1 f_is_cell (dCons (dVar 1) (dNil))) (p := fun _ => true) (h := fun q => .bl (cellV q)) (own := [1]) (th := noTh) (env := [some (.tup xs), none]) (st := st) (s := st) (xs := xs) rfl hz (fun _ _ _ => rfl) (fun q hq _ acc => by
        simp only [mkF, env0, dSeq, dSet, dIfS, dRet, dRetN, dExp, dBin, dUn, dVar, dC, dCons, dNil, dApp, dMet, dCall, dCallV, b_ok, b_bad, s_ok, f_rt, f_nx, dTB, dTst, dNotT, dOrT, dAndT, dAnd, dOr, dNot, dChain, dIf, dSkip, dNever, Tg.set, e_le, e_lt, e_ge, e_gt, e_add, e_sub, List.map_cons, List.map_nil, List.length_cons, List.length_nil, List.replicate, List.cons_append, List.nil_append, List.append_nil, List.getElem?_cons_zero, List.getElem?_cons_succ, List.set_cons_zero, List.set_cons_succ, Nat.sub_self, Nat.reduceSub, Nat.reduceAdd, wipeE, Nat.beq, if_true]
        exact cellV_ok (List.all_eq_true.mp h1 q hq) _)
      rw [all_true] at hl
      simp only [m_is_cells, d_is_cells, bo_is_cells_0, mkF, env0, dSeq, dSet, dIfS, dRet, dRetN, dExp, dBin, dUn, dVar, dC, dCons, dNil, dApp, dMet, dCall, dCallV, b_ok, b_bad, s_ok, f_rt, f_nx, dTB, dTst, dNotT, dOrT, dAndT, dAnd, dOr, dNot, dChain, dIf, dSkip, dNever, Tg.set, e_le, e_lt, e_ge, e_gt, e_add, e_sub, List.map_cons, List.map_nil, List.length_cons, List.length_nil, List.replicate, List.cons_append, List.nil_append, List.append_nil, List.getElem?_cons_zero, List.getElem?_cons_succ, List.set_cons_zero, List.set_cons_succ, Nat.sub_self, Nat.reduceSub, Nat.reduceAdd, wipeE, fIsi, tyOf, isiB, hl]
      rw [e_all (lst_end _ _ _) (bls_map cellV xs)]
      simp only [mkF, env0, dSeq, dSet, dIfS, dRet, dRetN, dExp, dBin, dUn, dVar, dC, dCons, dNil, dApp, dMet, dCall, dCallV, b_ok, b_bad, s_ok, f_rt, f_nx, dTB, dTst, dNotT, dOrT, dAndT, dAnd, dOr, dNot, dChain, dIf, dSkip, dNever, Tg.set, e_le, e_lt, e_ge, e_gt, e_add, e_sub, List.map_cons, List.map_nil, List.length_cons, List.length_nil, List.replicate, List.cons_append, List.nil_append, List.append_nil, List.getElem?_cons_zero, List.getElem?_cons_succ, List.set_cons_zero, List.set_cons_succ, Nat.sub_self, Nat.reduceSub, Nat.reduceAdd, wipeE]
      have e : xs.all cellV = (xs.map cellV).all id := by
        rw [List.all_map]
        rfl
      rw [e]
      exact ⟨_, rfl, rfl, hs, Nat.le_refl _⟩
    · trivial
  · rename_i p hp2
    cases ht : tyOf st p with
    | none => trivial
    | some t =>
      by_cases hstr : t = .tuple
      · subst hstr
        trivial
      · have hi := isi_ok (T := .tuple) ht
        have hb : isiB t .tuple = false := by
          cases t <;> first | rfl | exact absurd rfl hstr
        simp only [m_is_cells, d_is_cells, bo_is_cells_0, mkF, env0, dSeq, dSet, dIfS, dRet, dRetN, dExp, dBin, dUn, dVar, dC, dCons, dNil, dApp, dMet, dCall, dCallV, b_ok, b_bad, s_ok, f_rt, f_nx, dTB, dTst, dNotT, dOrT, dAndT, dAnd, dOr, dNot, dChain, dIf, dSkip, dNever, Tg.set, e_le, e_lt, e_ge, e_gt, e_add, e_sub, List.map_cons, List.map_nil, List.length_cons, List.length_nil, List.replicate, List.cons_append, List.nil_append, List.append_nil, List.getElem?_cons_zero, List.getElem?_cons_succ, List.set_cons_zero, List.set_cons_succ, Nat.sub_self, Nat.reduceSub, Nat.reduceAdd, wipeE, hi, hb]
        cases t <;> first | exact absurd rfl hstr | exact ⟨[], by rw [List.append_nil], rfl, hs, Nat.le_refl _⟩
  · trivial
end K01
end
section
set_option maxRecDepth 100000
set_option maxHeartbeats 4000000
namespace K01
open PySem PySem.Spec PyProof.Rows L2 Mi
theorem okp_iff (a b : Int) : okPair a b = true ↔ a < 729 ∧ b < 729 ∧ 0 < a / 27 ∧ (0 < a % 27 ∨ (a % 27 = 0 ∧ b / 27 = 0)) ∧ (0 < b / 27 ∨ (b / 27 = 0 ∧ b % 27 = 0)) := by
  show (decide (a < 729) && decide (b < 729) && decide (0 < a / 27) && (decide (0 < a % 27) || (a % 27 == 0 && b / 27 == 0)) && (decide (0 < b / 27) || (b / 27 == 0 && b % 27 == 0))) = true ↔ _
  simp only [Bool.and_eq_true, Bool.or_eq_true, decide_eq_true_eq, beq_iff_eq]
  constructor
  · intro h
    omega
  · intro h
    omega
/-! ### names and pairs: there and back, in one order -/
theorem back_ok {x : List Nat} (h : nmB x = true) : nameOf (cellA x) (cellB x) = .str x ∧ 0 ≤ cellA x ∧ cellA x ≤ 996 ∧ 0 ≤ cellB x ∧ cellB x ≤ 996 := by
  obtain ⟨hx, h1, h4⟩ := nm_lets h
  have hl := fun c hc => lets_ge c (hx c hc)
  have key : okPair (cellA x) (cellB x) = true ∧ spell (cellA x) (cellB x) = x ∧ 0 ≤ cellA x ∧ cellA x ≤ 996 ∧ 0 ≤ cellB x ∧ cellB x ≤ 996 := by
    match x, h1, h4, hl with
    | [a], _, _, hl =>
      have b1 := hl a (by simp)
      have e1 : ((27 * ((a : Int) - 96) + 0) / 27) = (a : Int) - 96 := by omega
      have e2 : ((27 * ((a : Int) - 96) + 0) % 27) = 0 := by omega
      refine ⟨?_, ?_, ?_⟩
      · rw [okp_iff]
        simp only [cellA, cellB, fig, List.getElem?_cons_zero, List.getElem?_cons_succ, List.getElem?_nil]
        omega
      · have p1 : 0 < (a : Int) - 96 := by omega
        have t0 : True := trivial
        have f1 : decide (0 < (a : Int) - 96) = true := decide_eq_true p1
        have g1 : ((a : Int) - 96 + 96).toNat = a := by omega
        have f0 : decide ((0 : Int) < 0) = false := rfl
        have e3 : ((27 : Int) * 0 + 0) / 27 = 0 := rfl
        have e4 : ((27 : Int) * 0 + 0) % 27 = 0 := rfl
        simp only [spell, figs4, cellA, cellB, fig, List.getElem?_cons_zero, List.getElem?_cons_succ, List.getElem?_nil, e1, e2, e3, e4, List.filter, f0, f1, List.map_cons, List.map_nil, g1]
      · simp [cellA, cellB, fig]
        omega
    | [a, b], _, _, hl =>
      have b1 := hl a (by simp)
      have b2 := hl b (by simp)
      have e1 : ((27 * ((a : Int) - 96) + ((b : Int) - 96)) / 27) = (a : Int) - 96 := by omega
      have e2 : ((27 * ((a : Int) - 96) + ((b : Int) - 96)) % 27) = (b : Int) - 96 := by omega
      have p1 : 0 < (a : Int) - 96 := by omega
      have p2 : 0 < (b : Int) - 96 := by omega
      refine ⟨?_, ?_, ?_⟩
      · rw [okp_iff]
        simp only [cellA, cellB, fig, List.getElem?_cons_zero, List.getElem?_cons_succ, List.getElem?_nil]
        omega
      · have t0 : True := trivial
        have f1 : decide (0 < (a : Int) - 96) = true := decide_eq_true p1
        have g1 : ((a : Int) - 96 + 96).toNat = a := by omega
        have f2 : decide (0 < (b : Int) - 96) = true := decide_eq_true p2
        have g2 : ((b : Int) - 96 + 96).toNat = b := by omega
        have f0 : decide ((0 : Int) < 0) = false := rfl
        have e3 : ((27 : Int) * 0 + 0) / 27 = 0 := rfl
        have e4 : ((27 : Int) * 0 + 0) % 27 = 0 := rfl
        simp only [spell, figs4, cellA, cellB, fig, List.getElem?_cons_zero, List.getElem?_cons_succ, List.getElem?_nil, e1, e2, e3, e4, List.filter, f0, f1, f2, List.map_cons, List.map_nil, g1, g2]
      · simp [cellA, cellB, fig]
        omega
    | [a, b, c], _, _, hl =>
      have b1 := hl a (by simp)
      have b2 := hl b (by simp)
      have b3 := hl c (by simp)
      have e1 : ((27 * ((a : Int) - 96) + ((b : Int) - 96)) / 27) = (a : Int) - 96 := by omega
      have e2 : ((27 * ((a : Int) - 96) + ((b : Int) - 96)) % 27) = (b : Int) - 96 := by omega
      have p1 : 0 < (a : Int) - 96 := by omega
      have p2 : 0 < (b : Int) - 96 := by omega
      have p3 : 0 < (c : Int) - 96 := by omega
      refine ⟨?_, ?_, ?_⟩
      · rw [okp_iff]
        simp only [cellA, cellB, fig, List.getElem?_cons_zero, List.getElem?_cons_succ, List.getElem?_nil]
        omega
      · have t0 : True := trivial
        have f1 : decide (0 < (a : Int) - 96) = true := decide_eq_true p1
        have g1 : ((a : Int) - 96 + 96).toNat = a := by omega
        have f2 : decide (0 < (b : Int) - 96) = true := decide_eq_true p2
        have g2 : ((b : Int) - 96 + 96).toNat = b := by omega
        have f3 : decide (0 < (c : Int) - 96) = true := decide_eq_true p3
        have g3 : ((c : Int) - 96 + 96).toNat = c := by omega
        have f0 : decide ((0 : Int) < 0) = false := rfl
        have e3 : (27 * ((c : Int) - 96) + 0) / 27 = (c : Int) - 96 := by omega
        have e4 : (27 * ((c : Int) - 96) + 0) % 27 = 0 := by omega
        simp only [spell, figs4, cellA, cellB, fig, List.getElem?_cons_zero, List.getElem?_cons_succ, List.getElem?_nil, e1, e2, e3, e4, List.filter, f0, f1, f2, f3, List.map_cons, List.map_nil, g1, g2, g3]
      · simp [cellA, cellB, fig]
        omega
    | [a, b, c, d], _, _, hl =>
      have b1 := hl a (by simp)
      have b2 := hl b (by simp)
      have b3 := hl c (by simp)
      have b4 := hl d (by simp)
      have e1 : ((27 * ((a : Int) - 96) + ((b : Int) - 96)) / 27) = (a : Int) - 96 := by omega
      have e2 : ((27 * ((a : Int) - 96) + ((b : Int) - 96)) % 27) = (b : Int) - 96 := by omega
      have e3 : ((27 * ((c : Int) - 96) + ((d : Int) - 96)) / 27) = (c : Int) - 96 := by omega
      have e4 : ((27 * ((c : Int) - 96) + ((d : Int) - 96)) % 27) = (d : Int) - 96 := by omega
      have p1 : 0 < (a : Int) - 96 := by omega
      have p2 : 0 < (b : Int) - 96 := by omega
      have p3 : 0 < (c : Int) - 96 := by omega
      have p4 : 0 < (d : Int) - 96 := by omega
      refine ⟨?_, ?_, ?_⟩
      · rw [okp_iff]
        simp only [cellA, cellB, fig, List.getElem?_cons_zero, List.getElem?_cons_succ, List.getElem?_nil]
        omega
      · have t0 : True := trivial
        have f1 : decide (0 < (a : Int) - 96) = true := decide_eq_true p1
        have g1 : ((a : Int) - 96 + 96).toNat = a := by omega
        have f2 : decide (0 < (b : Int) - 96) = true := decide_eq_true p2
        have g2 : ((b : Int) - 96 + 96).toNat = b := by omega
        have f3 : decide (0 < (c : Int) - 96) = true := decide_eq_true p3
        have g3 : ((c : Int) - 96 + 96).toNat = c := by omega
        have f4 : decide (0 < (d : Int) - 96) = true := decide_eq_true p4
        have g4 : ((d : Int) - 96 + 96).toNat = d := by omega
        have f0 : decide ((0 : Int) < 0) = false := rfl
        simp only [spell, figs4, cellA, cellB, fig, List.getElem?_cons_zero, List.getElem?_cons_succ, List.getElem?_nil, e1, e2, e3, e4, List.filter, f0, f1, f2, f3, f4, List.map_cons, List.map_nil, g1, g2, g3, g4]
      · simp [cellA, cellB, fig]
        omega
  refine ⟨?_, key.2.2⟩
  unfold nameOf
  rw [if_pos key.1, key.2.1]
theorem order_ok {x y : List Nat} (hx : nmB x = true) (hy : nmB y = true) : leP (cellA x, cellB x) (cellA y, cellB y) = leS x y := by
  obtain ⟨h1, h2, h3⟩ := nm_lets hx
  obtain ⟨k1, k2, k3⟩ := nm_lets hy
  have hl := fun c hc => lets_ge c (h1 c hc)
  have kl := fun c hc => lets_ge c (k1 c hc)
  rw [Bool.eq_iff_iff, leP_iff]
  unfold leS
  match x, h2, h3, hl with
  | [a], _, _, hl =>
    have b1 := hl a (by simp)
    match y, k2, k3, kl with
    | [p], _, _, kl =>
      have c1 := kl p (by simp)
      simp [ltCps, cellA, cellB, fig] <;> omega
    | [p, q], _, _, kl =>
      have c1 := kl p (by simp)
      have c2 := kl q (by simp)
      simp [ltCps, cellA, cellB, fig] <;> omega
    | [p, q, r], _, _, kl =>
      have c1 := kl p (by simp)
      have c2 := kl q (by simp)
      have c3 := kl r (by simp)
      simp [ltCps, cellA, cellB, fig] <;> omega
    | [p, q, r, s], _, _, kl =>
      have c1 := kl p (by simp)
      have c2 := kl q (by simp)
      have c3 := kl r (by simp)
      have c4 := kl s (by simp)
      simp [ltCps, cellA, cellB, fig] <;> omega
  | [a, b], _, _, hl =>
    have b1 := hl a (by simp)
    have b2 := hl b (by simp)
    match y, k2, k3, kl with
    | [p], _, _, kl =>
      have c1 := kl p (by simp)
      simp [ltCps, cellA, cellB, fig] <;> omega
    | [p, q], _, _, kl =>
      have c1 := kl p (by simp)
      have c2 := kl q (by simp)
      simp [ltCps, cellA, cellB, fig] <;> omega
    | [p, q, r], _, _, kl =>
      have c1 := kl p (by simp)
      have c2 := kl q (by simp)
      have c3 := kl r (by simp)
      simp [ltCps, cellA, cellB, fig] <;> omega
    | [p, q, r, s], _, _, kl =>
      have c1 := kl p (by simp)
      have c2 := kl q (by simp)
      have c3 := kl r (by simp)
      have c4 := kl s (by simp)
      simp [ltCps, cellA, cellB, fig] <;> omega
  | [a, b, c], _, _, hl =>
    have b1 := hl a (by simp)
    have b2 := hl b (by simp)
    have b3 := hl c (by simp)
    match y, k2, k3, kl with
    | [p], _, _, kl =>
      have c1 := kl p (by simp)
      simp [ltCps, cellA, cellB, fig] <;> omega
    | [p, q], _, _, kl =>
      have c1 := kl p (by simp)
      have c2 := kl q (by simp)
      simp [ltCps, cellA, cellB, fig] <;> omega
    | [p, q, r], _, _, kl =>
      have c1 := kl p (by simp)
      have c2 := kl q (by simp)
      have c3 := kl r (by simp)
      simp [ltCps, cellA, cellB, fig] <;> omega
    | [p, q, r, s], _, _, kl =>
      have c1 := kl p (by simp)
      have c2 := kl q (by simp)
      have c3 := kl r (by simp)
      have c4 := kl s (by simp)
      simp [ltCps, cellA, cellB, fig] <;> omega
  | [a, b, c, d], _, _, hl =>
    have b1 := hl a (by simp)
    have b2 := hl b (by simp)
    have b3 := hl c (by simp)
    have b4 := hl d (by simp)
    match y, k2, k3, kl with
    | [p], _, _, kl =>
      have c1 := kl p (by simp)
      simp [ltCps, cellA, cellB, fig] <;> omega
    | [p, q], _, _, kl =>
      have c1 := kl p (by simp)
      have c2 := kl q (by simp)
      simp [ltCps, cellA, cellB, fig] <;> omega
    | [p, q, r], _, _, kl =>
      have c1 := kl p (by simp)
      have c2 := kl q (by simp)
      have c3 := kl r (by simp)
      simp [ltCps, cellA, cellB, fig] <;> omega
    | [p, q, r, s], _, _, kl =>
      have c1 := kl p (by simp)
      have c2 := kl q (by simp)
      have c3 := kl r (by simp)
      have c4 := kl s (by simp)
      simp [ltCps, cellA, cellB, fig] <;> omega
theorem insS_map {α β : Type} {le : α → α → Bool} {le' : β → β → Bool} (f : α → β) (x : α) : ∀ l : List α, (∀ y ∈ l, le' (f x) (f y) = le x y) → insS le' (f x) (l.map f) = (insS le x l).map f
  | [], _ => rfl
  | y :: r, h => by
    rw [List.map_cons]
    unfold insS
    rw [h y List.mem_cons_self]
    split
    · rfl
    · rw [insS_map f x r fun z hz => h z (List.mem_cons_of_mem _ hz), List.map_cons]
theorem sortS_map {α β : Type} {le : α → α → Bool} {le' : β → β → Bool} (f : α → β) : ∀ l : List α, (∀ x ∈ l, ∀ y ∈ l, le' (f x) (f y) = le x y) → sortS le' (l.map f) = (sortS le l).map f
  | [], _ => rfl
  | x :: r, h => by
    rw [List.map_cons]
    unfold sortS
    rw [sortS_map f r fun y hy z hz => h y (List.mem_cons_of_mem _ hy) z (List.mem_cons_of_mem _ hz)]
    exact insS_map f x _ fun y hy => h x List.mem_cons_self y (List.mem_cons_of_mem _ ((sortS_perm le r).mem_iff.mp hy))
end K01
end
section
set_option maxRecDepth 100000
set_option maxHeartbeats 4000000
namespace K01
open PySem PySem.Spec PyProof.Rows L2 Mi
/-! ### drawn names -/
theorem Well.fz {w n : Nat} {st : Sto} (h : Well w n st) : Fz st := by
  obtain ⟨a, b, c, _, _, _, hz⟩ := h
  exact hz
theorem Well.set {w n D : Nat} {st : Sto} {o : SO} (h : Well w n st) (hD : D ≠ w) (h0 : D ≠ 0) : Well w n (st.set D o) := by
  obtain ⟨a, b, c, hg, h1, h2, hz⟩ := h
  exact ⟨a, b, c, by rw [List.getElem?_set_ne hD]; exact hg, h1, h2, hz.set h0⟩
theorem Well.app {w n : Nat} {st g : Sto} (h : Well w n st) : Well w n (st ++ g) := by
  obtain ⟨a, b, c, hg, h1, h2, hz⟩ := h
  exact ⟨a, b, c, by rw [List.getElem?_append_left (List.getElem?_eq_some_iff.mp hg).1]; exact hg, h1, h2, hz.app⟩
theorem Well.mono {w n m : Nat} {st : Sto} (h : Well w n st) (hm : n ≤ m) : Well w m st := by
  obtain ⟨a, b, c, hg, h1, h2, hz⟩ := h
  exact ⟨a, b, c, hg, h1, by omega, hz⟩
theorem Well.lt {w n : Nat} {st : Sto} (h : Well w n st) : w < st.length := by
  obtain ⟨a, b, c, hg, _⟩ := h
  exact (List.getElem?_eq_some_iff.mp hg).1
theorem get_app {st g : Sto} {i : Nat} {o : SO} (h : st[i]? = some o) : (st ++ g)[i]? = some o := by
  rw [List.getElem?_append_left (List.getElem?_eq_some_iff.mp h).1]
  exact h
theorem get_lt {st : Sto} {i : Nat} {o : SO} (h : st[i]? = some o) : i < st.length := (List.getElem?_eq_some_iff.mp h).1
theorem e_rng1 {j : Int} (st : Sto) (h : okI j = true) : fRng1 [.int j] st = .ok (.vals (rngV 0 1 j.toNat)) st := by
  show (if okI j = true then _ else _) = _
  rw [if_pos h]
theorem okI_small {j : Int} (h : -1000 ≤ j) (h2 : j ≤ 1000) : okI j = true := by
  unfold okI
  rw [decide_eq_true (by omega), decide_eq_true (by omega)]
  rfl
def ls : List Nat := [97, 98, 109, 122]
theorem signs_of : ∀ ys : List PV, (∀ y ∈ ys, ∃ c ∈ ls, y = .str [c]) → ∃ cs : List Nat, ys = cs.map (fun c => PV.str [c]) ∧ ∀ c ∈ cs, c ∈ ls
  | [], _ => ⟨[], rfl, fun c hc => nomatch hc⟩
  | y :: ys, h => by
    obtain ⟨c, hc, e⟩ := h y List.mem_cons_self
    obtain ⟨cs, e2, h2⟩ := signs_of ys fun z hz => h z (List.mem_cons_of_mem _ hz)
    refine ⟨c :: cs, by rw [e, e2, List.map_cons], fun d hd => ?_⟩
    rcases List.mem_cons.mp hd with rfl | hd
    · exact hc
    · exact h2 d hd
/-- a list of drawn letters -/
theorem letters_ok {w n k1 : Nat} {st : Sto} {nms : List PV} {rest : Mi.Env} (h : Well w n st) (hn : n ≤ 90000) (hk : st[k1]? = some (.lst nms)) (hkw : k1 ≠ w) :
    ∃ (D : Nat) (cs : List Nat) (st' : Sto), dLc (dRng fRng1 (dCons (dBin pAdd (dC (.int 1)) (dCall 2 f__law_drawn (dCons (dVar 0) (dCons (dC (.int 4)) (dNil))))) (dNil))) (.nm 10) (dYes) (bo__law_right_4) [10] noTh (some (.ref w) :: rest) st = .ok (.ref D) st' ∧ st'[D]? = some (.lst (cs.map fun c => PV.str [c])) ∧ (∀ c ∈ cs, c ∈ ls) ∧ 1 ≤ cs.length ∧ cs.length ≤ 4 ∧ Well w (n + 5) st' ∧ st'[k1]? = some (.lst nms) ∧ D ≠ w ∧ D ≠ k1 := by
  obtain ⟨r, st1, e1, r0, r1, w1, s1⟩ := drawn_ok (m := 4) h (by omega) (by decide) (by decide)
  have hk1 : st1[k1]? = some (.lst nms) := (s1.2 k1 hkw).trans hk
  have hDw : st1.length ≠ w := Nat.ne_of_gt w1.lt
  have hDk : st1.length ≠ k1 := Nat.ne_of_gt (get_lt hk1)
  obtain ⟨ys, st2, e2, d2, l2, p2, i2⟩ := lcV_inv (B := 4) (i := 10) (D := st1.length) (el := bo__law_right_4) (own := [10]) (th := noTh) (env := wipeE (some (.ref w) :: rest) [10]) (I := fun m s => Well w (n + 1 + m) s ∧ s[k1]? = some (.lst nms)) (P := fun y => ∃ c ∈ ls, y = .str [c])
    (fun m s acc hi => ⟨hi.1.set hDw (Nat.ne_of_gt (Nat.lt_of_le_of_lt (Nat.zero_le _) w1.lt)), by rw [List.getElem?_set_ne hDk]; exact hi.2⟩) (rngV 0 1 (1 + r).toNat) (fun x hx m s acc hm hi hD => by
      obtain ⟨hw, hk2⟩ := hi
      have el : fList [.str [97, 97, 98, 109, 122]] s = .ok (.ref s.length) (s ++ [.lst [.str [97], .str [97], .str [98], .str [109], .str [122]]]) := rfl
      obtain ⟨y, s', e, hy, hw2, hs2⟩ := given_ok (k := s.length) (xs := [.str [97], .str [97], .str [98], .str [109], .str [122]]) (st := s ++ [.lst [.str [97], .str [97], .str [98], .str [109], .str [122]]]) hw.app (by omega) (get_end s _ []) (Nat.ne_of_gt hw.lt) (by simp) (by simp)
      refine ⟨y, s', ?_, ?_, ⟨hw2, (hs2.2 k1 hkw).trans (get_app hk2)⟩, (hs2.2 _ hDw).trans (get_app hD)⟩
      · simp only [bo__law_right_4, mkF, env0, dSeq, dSet, dIfS, dRet, dRetN, dExp, dBin, dUn, dVar, dC, dCons, dNil, dApp, dMet, dCall, dCallV, b_ok, b_bad, s_ok, f_rt, f_nx, dTB, dTst, dNotT, dOrT, dAndT, dAnd, dOr, dNot, dChain, dIf, dSkip, dNever, Tg.set, e_le, e_lt, e_ge, e_gt, e_add, e_sub, List.map_cons, List.map_nil, List.length_cons, List.length_nil, List.replicate, List.cons_append, List.nil_append, List.append_nil, List.getElem?_cons_zero, List.getElem?_cons_succ, List.set_cons_zero, List.set_cons_succ, Nat.sub_self, Nat.reduceSub, Nat.reduceAdd, wipeE, el, Nat.beq, if_true]
        exact e
      · simp only [List.mem_cons, List.not_mem_nil, or_false] at hy
        rcases hy with rfl | rfl | rfl | rfl | rfl
        · exact ⟨97, by decide, rfl⟩
        · exact ⟨97, by decide, rfl⟩
        · exact ⟨98, by decide, rfl⟩
        · exact ⟨109, by decide, rfl⟩
        · exact ⟨122, by decide, rfl⟩) (st1 ++ [.lst []]) [] 0 (by rw [rngV_len]; omega) ⟨w1.app, get_app hk1⟩ (get_end st1 _ []) (by rw [rngV_len]; simp; omega)
  obtain ⟨cs, rfl, hcs⟩ := signs_of ys p2
  rw [List.length_map, rngV_len] at l2
  refine ⟨st1.length, cs, st2, ?_, by rw [d2]; rfl, hcs, by omega, by omega, (i2.1.mono (by rw [rngV_len]; omega)), i2.2, hDw, hDk⟩
  have hit : dRng fRng1 (dCons (dBin pAdd (dC (.int 1)) (dCall 2 f__law_drawn (dCons (dVar 0) (dCons (dC (.int 4)) (dNil))))) (dNil)) noTh (some (.ref w) :: rest) st = .ok (.vals (rngV 0 1 (1 + r).toNat)) st1 := by
    simp only [dRng, mkF, env0, dSeq, dSet, dIfS, dRet, dRetN, dExp, dBin, dUn, dVar, dC, dCons, dNil, dApp, dMet, dCall, dCallV, b_ok, b_bad, s_ok, f_rt, f_nx, dTB, dTst, dNotT, dOrT, dAndT, dAnd, dOr, dNot, dChain, dIf, dSkip, dNever, Tg.set, e_le, e_lt, e_ge, e_gt, e_add, e_sub, List.map_cons, List.map_nil, List.length_cons, List.length_nil, List.replicate, List.cons_append, List.nil_append, List.append_nil, List.getElem?_cons_zero, List.getElem?_cons_succ, List.set_cons_zero, List.set_cons_succ, Nat.sub_self, Nat.reduceSub, Nat.reduceAdd, wipeE, Nat.beq, if_true, e1, e_rng1 _ (okI_small (j := 1 + r) (by omega) (by omega))]
  unfold dLc
  rw [hit]
  simp only [b_ok]
  rw [e2]
  rfl
theorem ls_lets : ∀ c ∈ ls, c ∈ lets := by decide
theorem drawn_nm {cs : List Nat} (h : ∀ c ∈ cs, c ∈ ls) (h1 : 1 ≤ cs.length) (h4 : cs.length ≤ 4) : nmB cs = true := by
  unfold nmB
  rw [Nat.ble_eq_true_of_le h1, Nat.ble_eq_true_of_le h4]
  exact List.all_eq_true.mpr fun c hc => decide_eq_true (ls_lets c (h c hc))
theorem sum_ones (cs : List Nat) : ((cs.map fun c => [c]).map List.length).sum = cs.length := by
  induction cs with
  | nil => rfl
  | cons c cs ih =>
    rw [List.map_cons, List.map_cons, List.sum_cons, ih, List.length_cons, List.length_cons, List.length_nil]
    omega
/-- the loop that draws names -/
theorem names_turn {w n k1 : Nat} {st : Sto} {nms : List (List Nat)} {i5 i2 i3 i4 i6 i7 i8 i9 i10 i11 : Option PV} (h : Well w n st) (hn : n ≤ 90000) (hk : st[k1]? = some (.lst (nms.map PV.str))) (hkw : k1 ≠ w) (hl : nms.length ≤ 100) :
    ∃ D x st', bo__law_right_5 noTh [some (.ref w), some (.ref k1), i2, i3, i4, i5, i6, i7, i8, i9, i10, i11] st = .nx [some (.ref w), some (.ref k1), i2, i3, i4, some (.ref D), i6, i7, i8, i9, i10, i11] st' ∧ nmB x = true ∧ Well w (n + 5) st' ∧ st'[k1]? = some (.lst ((nms ++ [x]).map PV.str)) := by
  obtain ⟨D, cs, st1, e1, d1, hcs, h1, h4, w1, k2, hDw, hDk⟩ := letters_ok (rest := [some (.ref k1), i2, i3, i4, i5, i6, i7, i8, i9, i10, i11]) h hn hk hkw
  refine ⟨D, cs, st1.set k1 (.lst ((nms ++ [cs]).map PV.str)), ?_, drawn_nm hcs h1 h4, w1.set hkw (w1.fz.ne0 k2), List.getElem?_set_self (get_lt k2)⟩
  simp only [bo__law_right_5, mkF, env0, dSeq, dSet, dIfS, dRet, dRetN, dExp, dBin, dUn, dVar, dC, dCons, dNil, dApp, dMet, dCall, dCallV, b_ok, b_bad, s_ok, f_rt, f_nx, dTB, dTst, dNotT, dOrT, dAndT, dAnd, dOr, dNot, dChain, dIf, dSkip, dNever, Tg.set, e_le, e_lt, e_ge, e_gt, e_add, e_sub, List.map_cons, List.map_nil, List.length_cons, List.length_nil, List.replicate, List.cons_append, List.nil_append, List.append_nil, List.getElem?_cons_zero, List.getElem?_cons_succ, List.set_cons_zero, List.set_cons_succ, Nat.sub_self, Nat.reduceSub, Nat.reduceAdd, wipeE]
  rw [e1]
  simp only [mkF, env0, dSeq, dSet, dIfS, dRet, dRetN, dExp, dBin, dUn, dVar, dC, dCons, dNil, dApp, dMet, dCall, dCallV, b_ok, b_bad, s_ok, f_rt, f_nx, dTB, dTst, dNotT, dOrT, dAndT, dAnd, dOr, dNot, dChain, dIf, dSkip, dNever, Tg.set, e_le, e_lt, e_ge, e_gt, e_add, e_sub, List.map_cons, List.map_nil, List.length_cons, List.length_nil, List.replicate, List.cons_append, List.nil_append, List.append_nil, List.getElem?_cons_zero, List.getElem?_cons_succ, List.set_cons_zero, List.set_cons_succ, Nat.sub_self, Nat.reduceSub, Nat.reduceAdd, wipeE, e_isLst (lst_of k2), isStr, if_true]
  rw [e_join (lst_of d1) (strs_map (fun c : Nat => c) cs) (by
    rw [sum_ones, List.length_nil, Nat.mul_zero]
    exact Nat.ble_eq_true_of_le (by omega))]
  rw [glue_nil]
  simp only [mkF, env0, dSeq, dSet, dIfS, dRet, dRetN, dExp, dBin, dUn, dVar, dC, dCons, dNil, dApp, dMet, dCall, dCallV, b_ok, b_bad, s_ok, f_rt, f_nx, dTB, dTst, dNotT, dOrT, dAndT, dAnd, dOr, dNot, dChain, dIf, dSkip, dNever, Tg.set, e_le, e_lt, e_ge, e_gt, e_add, e_sub, List.map_cons, List.map_nil, List.length_cons, List.length_nil, List.replicate, List.cons_append, List.nil_append, List.append_nil, List.getElem?_cons_zero, List.getElem?_cons_succ, List.set_cons_zero, List.set_cons_succ, Nat.sub_self, Nat.reduceSub, Nat.reduceAdd, wipeE]
  rw [e_append k2 (by rw [List.length_map]; omega), List.map_id']
  simp only [mkF, env0, dSeq, dSet, dIfS, dRet, dRetN, dExp, dBin, dUn, dVar, dC, dCons, dNil, dApp, dMet, dCall, dCallV, b_ok, b_bad, s_ok, f_rt, f_nx, dTB, dTst, dNotT, dOrT, dAndT, dAnd, dOr, dNot, dChain, dIf, dSkip, dNever, Tg.set, e_le, e_lt, e_ge, e_gt, e_add, e_sub, List.map_cons, List.map_nil, List.length_cons, List.length_nil, List.replicate, List.cons_append, List.nil_append, List.append_nil, List.getElem?_cons_zero, List.getElem?_cons_succ, List.set_cons_zero, List.set_cons_succ, Nat.sub_self, Nat.reduceSub, Nat.reduceAdd, wipeE, List.map_append]
/-! ### the names are judged -/
theorem nc_ok {x : List Nat} (h : nmB x = true) (s : Sto) : f_name_cells [.str x] s = .ok (pair (cellA x) (cellB x)) s := by
  show s_cells_in _ s = _
  unfold s_cells_in
  dsimp only
  rw [if_pos h]
theorem fg_ok {x : List Nat} (h : nmB x = true) (s : Sto) : f__law_figures [.str x] s = .ok (pair (cellA x) (cellB x)) s := nc_ok h s
theorem cn_ok {a b : Int} (h1 : 0 ≤ a) (h2 : a ≤ 996) (h3 : 0 ≤ b) (h4 : b ≤ 996) (s : Sto) : f_cells_name [.int a, .int b] s = .ok (nameOf a b) s := name_in_ok (by simp [h1, h2, h3, h4]) s
theorem sp_ok {a b : Int} (h1 : 0 ≤ a) (h2 : a ≤ 996) (h3 : 0 ≤ b) (h4 : b ≤ 996) (s : Sto) : f__law_spelled [.int a, .int b] s = .ok (nameOf a b) s := name_in_ok (by simp [h1, h2, h3, h4]) s
theorem ne_pair (a b : Int) (s : Sto) : pNe (pair a b) (pair a b) s = .ok (.bl false) s := by
  have e : pEqB (pair a b) (pair a b) s = some (a == a && (b == b && true)) := rfl
  unfold pNe
  rw [e]
  simp
theorem ne_nameOf (a b : Int) (s : Sto) : pNe (nameOf a b) (nameOf a b) s = .ok (.bl false) s := by
  unfold nameOf
  split
  · show Res.ok (PV.bl (!decide (spell a b = spell a b))) s = _
    rw [decide_eq_true rfl]
    rfl
  · rfl
theorem check_turn {x : List Nat} (h : nmB x = true) {i0 i1 i2 i4 i5 i6 i7 i8 i9 i10 i11 : Option PV} (st : Sto) :
    bo__law_right_3 noTh [i0, i1, i2, some (.str x), i4, i5, i6, i7, i8, i9, i10, i11] st = .nx [i0, i1, i2, some (.str x), i4, i5, i6, i7, i8, i9, i10, i11] st := by
  obtain ⟨b1, b2, b3, b4, b5⟩ := back_ok h
  have x0 : ∀ s : Sto, pIx (pair (cellA x) (cellB x)) (.int 0) s = .ok (.int (cellA x)) s := fun s => e_ixT s rfl
  have x1 : ∀ s : Sto, pIx (pair (cellA x) (cellB x)) (.int 1) s = .ok (.int (cellB x)) s := fun s => e_ixT s rfl
  have x2 : pNe (.str x) (.str x) st = .ok (.bl false) st := by
    rw [ne_str, decide_eq_true rfl]
    rfl
  simp only [bo__law_right_3, mkF, env0, dSeq, dSet, dIfS, dRet, dRetN, dExp, dBin, dUn, dVar, dC, dCons, dNil, dApp, dMet, dCall, dCallV, b_ok, b_bad, s_ok, f_rt, f_nx, dTB, dTst, dNotT, dOrT, dAndT, dAnd, dOr, dNot, dChain, dIf, dSkip, dNever, Tg.set, e_le, e_lt, e_ge, e_gt, e_add, e_sub, List.map_cons, List.map_nil, List.length_cons, List.length_nil, List.replicate, List.cons_append, List.nil_append, List.append_nil, List.getElem?_cons_zero, List.getElem?_cons_succ, List.set_cons_zero, List.set_cons_succ, Nat.sub_self, Nat.reduceSub, Nat.reduceAdd, wipeE, Nat.beq, if_true, nc_ok h, fg_ok h, ne_pair, x0, x1, cn_ok b2 b3 b4 b5, b1, x2]
/-! ### the sequence of names is that of the pairs -/
theorem ints_strs : ∀ {ss : List (List Nat)}, ss ≠ [] → intsOf (ss.map PV.str) = none
  | [], h => absurd rfl h
  | _ :: _, _ => rfl
theorem strs_self : ∀ ss : List (List Nat), strsOf (ss.map PV.str) = some ss
  | [] => rfl
  | x :: r => by
    rw [List.map_cons]
    unfold strsOf
    rw [strs_self r]
theorem e_sortS {s : Sto} {k : Nat} {ss : List (List Nat)} (h : lstAt s k = some (ss.map PV.str)) (h0 : ss ≠ []) (hl : ss.length < 64) : fSorted [.ref k] s = .ok (.ref s.length) (s ++ [.lst ((sortS leS ss).map .str)]) := by
  unfold fSorted
  dsimp only
  rw [h]
  dsimp only
  rw [ints_strs h0]
  dsimp only
  rw [strs_self]
  dsimp only
  have hb : Nat.blt ss.length 64 = true := Nat.ble_eq_true_of_le hl
  rw [if_pos hb]
theorem pairs_map (f g : List Nat → Int) : ∀ ss : List (List Nat), Mi.pairsOf (ss.map fun x => pair (f x) (g x)) = some (ss.map fun x => (f x, g x))
  | [] => rfl
  | x :: r => by
    rw [List.map_cons]
    unfold pair Mi.pairsOf
    have := pairs_map f g r
    unfold pair at this
    rw [this]
    rfl
theorem e_sortP {s : Sto} {k : Nat} {ss : List (List Nat)} (h : lstAt s k = some (ss.map fun x => pair (cellA x) (cellB x))) (h0 : ss ≠ []) : fSorted [.ref k] s = .ok (.ref s.length) (s ++ [.lst ((sortS leP (ss.map fun x => (cellA x, cellB x))).map fun p => .tup [.int p.1, .int p.2])]) := by
  unfold fSorted
  dsimp only
  rw [h]
  dsimp only
  have e1 : intsOf (ss.map fun x => pair (cellA x) (cellB x)) = none := by
    cases ss with
    | nil => exact absurd rfl h0
    | cons x r => rfl
  have e2 : strsOf (ss.map fun x => pair (cellA x) (cellB x)) = none := by
    cases ss with
    | nil => exact absurd rfl h0
    | cons x r => rfl
  rw [e1]
  dsimp only
  rw [e2]
  dsimp only
  rw [pairs_map]
theorem dat_strs {s : Sto} {k : Nat} {ss : List (List Nat)} (h : lstAt s k = some (ss.map PV.str)) (ho : ∀ x ∈ ss, okCh x = true) : dat 60 s (.ref k) = some (.list (ss.map fun x => .str (toS x))) := by
  have key : ∀ l : List (List Nat), (∀ x ∈ l, okCh x = true) → mapO (dat 59 s) (l.map PV.str) = some (l.map fun x => PyData.str (toS x)) := by
    intro l
    induction l with
    | nil => exact fun _ => rfl
    | cons x l ih =>
      intro h
      have e : dat 59 s (.str x) = some (PyData.str (toS x)) := by
        show (if okCh x = true then _ else _) = _
        rw [if_pos (h x List.mem_cons_self)]
      rw [List.map_cons]
      unfold mapO
      rw [e]
      dsimp only
      rw [ih fun y hy => h y (List.mem_cons_of_mem _ hy)]
      rfl
  show (match lstAt s k with
    | some xs => match mapO (dat 59 s) xs with
      | some ds => some (PyData.list ds)
      | none => none
    | none => none) = _
  rw [h]
  dsimp only
  rw [key ss ho]
theorem eqv_strs : ∀ ss : List (List Nat), PyData.eqvAll (ss.map fun x => .str (toS x)) (ss.map fun x => .str (toS x)) = true
  | [] => by
    unfold PyData.eqvAll
    rfl
  | x :: r => by
    rw [List.map_cons]
    unfold PyData.eqvAll
    rw [eqv_strs r]
    unfold PyData.eqv
    simp
theorem ne_lists {s : Sto} {j k : Nat} {ss : List (List Nat)} (h : lstAt s j = some (ss.map PV.str)) (h2 : lstAt s k = some (ss.map PV.str)) (ho : ∀ x ∈ ss, okCh x = true) : pNe (.ref j) (.ref k) s = .ok (.bl false) s := by
  have e : pEqB (.ref j) (.ref k) s = some true := by
    show (match dat 60 s (.ref j) with
      | some d => match dat 60 s (.ref k) with
        | some e => some (PyData.eqv d e)
        | none => none
      | none => none) = _
    rw [dat_strs h ho, dat_strs h2 ho]
    dsimp only
    unfold PyData.eqv
    rw [eqv_strs]
  unfold pNe
  rw [e]
  rfl
theorem nm_ch {x : List Nat} (h : nmB x = true) : okCh x = true := by
  obtain ⟨hx, _, _⟩ := nm_lets h
  unfold okCh
  refine List.all_eq_true.mpr fun c hc => ?_
  have := lets_ge c (hx c hc)
  exact Nat.ble_eq_true_of_le (by omega)
theorem it_list {s : Sto} {k : Nat} {xs : List PV} (h : lstAt s k = some xs) : itOf (.ref k) s = .ok (.dyn (xs.length + 1) (lstG k)) s := by
  unfold itOf
  dsimp only
  rw [h]
theorem sort_ok {k1 : Nat} {st : Sto} {nms : List (List Nat)} {i0 i2 i3 i4 i5 i6 i7 i8 i9 i10 i11 : Option PV} (hk : st[k1]? = some (.lst (nms.map PV.str))) (h0 : nms ≠ []) (hl : nms.length < 64) (hn : ∀ x ∈ nms, nmB x = true) :
    ∃ g, dTB (dBin pNe (dApp fSorted (dCons (dVar 1) (dNil))) (dLc (dIt (dApp fSorted (dCons (dLc (dIt (dVar 1)) (.nm 3) (dYes) (bo__law_right_1) [3]) (dNil)))) (.nm 11) (dYes) (bo__law_right_2) [11])) noTh [i0, some (.ref k1), i2, i3, i4, i5, i6, i7, i8, i9, i10, i11] st = .ok false (st ++ g) := by
  have l0 := lst_of hk
  have s1 := e_sortS l0 h0 hl
  obtain ⟨A, hA⟩ : ∃ A, A = sortS leS nms := ⟨_, rfl⟩
  rw [← hA] at s1
  have hAm : ∀ x ∈ A, x ∈ nms := fun x hx => by
    rw [hA] at hx
    exact (sortS_perm leS nms).mem_iff.mp hx
  have hAl : A.length = nms.length := by
    rw [hA]
    exact (sortS_perm leS nms).length_eq
  -- the pairs
  have l1 : lstAt (st ++ [.lst (A.map PV.str)]) k1 = some (nms.map PV.str) := lst_of (get_app hk)
  have c1 := dLc_list (it := dIt (dVar 1)) (i := 3) (ts := dYes) (el := bo__law_right_1) (p := fun _ => true) (h := fun q => match q with | .str x => pair (cellA x) (cellB x) | _ => .non) (own := [3]) (th := noTh) (env := [i0, some (.ref k1), i2, i3, i4, i5, i6, i7, i8, i9, i10, i11]) (st := st ++ [SO.lst (A.map PV.str)]) (s := st ++ [SO.lst (A.map PV.str)]) (xs := nms.map PV.str) (k := k1) (m := (nms.map PV.str).length + 1)
    (by exact it_list l1) l1 (Nat.lt_succ_self _) (by rw [List.length_map]; omega) (fun _ _ _ => rfl) (fun q hq _ acc => by
      obtain ⟨x, hx, rfl⟩ := List.mem_map.mp hq
      simp only [bo__law_right_1, mkF, env0, dSeq, dSet, dIfS, dRet, dRetN, dExp, dBin, dUn, dVar, dC, dCons, dNil, dApp, dMet, dCall, dCallV, b_ok, b_bad, s_ok, f_rt, f_nx, dTB, dTst, dNotT, dOrT, dAndT, dAnd, dOr, dNot, dChain, dIf, dSkip, dNever, Tg.set, e_le, e_lt, e_ge, e_gt, e_add, e_sub, List.map_cons, List.map_nil, List.length_cons, List.length_nil, List.replicate, List.cons_append, List.nil_append, List.append_nil, List.getElem?_cons_zero, List.getElem?_cons_succ, List.set_cons_zero, List.set_cons_succ, Nat.sub_self, Nat.reduceSub, Nat.reduceAdd, wipeE, Nat.beq, if_true, nc_ok (hn x hx)])
  rw [all_true, List.map_map] at c1
  have c1' : dLc (dIt (dVar 1)) (.nm 3) dYes bo__law_right_1 [3] noTh [i0, some (.ref k1), i2, i3, i4, i5, i6, i7, i8, i9, i10, i11] (st ++ [.lst (A.map PV.str)]) = .ok (.ref (st.length + 1)) (st ++ [.lst (A.map PV.str), .lst (nms.map fun x => pair (cellA x) (cellB x))]) := by
    rw [c1]
    have e : (st ++ [SO.lst (A.map PV.str)]).length = st.length + 1 := by simp
    rw [e, List.append_assoc]
    rfl
  have g2 : lstAt (st ++ [SO.lst (A.map PV.str), .lst (nms.map fun x => pair (cellA x) (cellB x))]) (st.length + 1) = some (nms.map fun x => pair (cellA x) (cellB x)) := lst_of (get_add st _ 1)
  have s2 := e_sortP g2 h0
  have e3 : sortS leP (nms.map fun x => (cellA x, cellB x)) = A.map fun x => (cellA x, cellB x) := by
    rw [hA]
    exact sortS_map (le := leS) (le' := leP) (fun x => (cellA x, cellB x)) nms fun x hx y hy => order_ok (hn x hx) (hn y hy)
  rw [e3, List.map_map] at s2
  have s2' : fSorted [.ref (st.length + 1)] (st ++ [SO.lst (A.map PV.str), .lst (nms.map fun x => pair (cellA x) (cellB x))]) = .ok (.ref (st.length + 2)) (st ++ [SO.lst (A.map PV.str), .lst (nms.map fun x => pair (cellA x) (cellB x)), .lst (A.map fun x => pair (cellA x) (cellB x))]) := by
    rw [s2]
    have e : (st ++ [SO.lst (A.map PV.str), .lst (nms.map fun x => pair (cellA x) (cellB x))]).length = st.length + 2 := by simp
    rw [e, List.append_assoc]
    rfl
  have g3 : lstAt (st ++ [SO.lst (A.map PV.str), .lst (nms.map fun x => pair (cellA x) (cellB x)), .lst (A.map fun x => pair (cellA x) (cellB x))]) (st.length + 2) = some (A.map fun x => pair (cellA x) (cellB x)) := lst_of (get_add st _ 2)
  have c2 := dLc_list (it := dIt (dApp fSorted (dCons (dLc (dIt (dVar 1)) (.nm 3) (dYes) (bo__law_right_1) [3]) (dNil)))) (i := 11) (ts := dYes) (el := bo__law_right_2) (p := fun _ => true) (h := fun q => match q with | .tup [.int a, .int b] => nameOf a b | _ => .non) (own := [11]) (th := noTh) (env := [i0, some (.ref k1), i2, i3, i4, i5, i6, i7, i8, i9, i10, i11]) (st := st ++ [SO.lst (A.map PV.str)])
    (s := st ++ [SO.lst (A.map PV.str), .lst (nms.map fun x => pair (cellA x) (cellB x)), .lst (A.map fun x => pair (cellA x) (cellB x))]) (xs := A.map fun x => pair (cellA x) (cellB x)) (k := st.length + 2) (m := (A.map fun x => pair (cellA x) (cellB x)).length + 1) (by
      simp only [dIt, mkF, env0, dSeq, dSet, dIfS, dRet, dRetN, dExp, dBin, dUn, dVar, dC, dCons, dNil, dApp, dMet, dCall, dCallV, b_ok, b_bad, s_ok, f_rt, f_nx, dTB, dTst, dNotT, dOrT, dAndT, dAnd, dOr, dNot, dChain, dIf, dSkip, dNever, Tg.set, e_le, e_lt, e_ge, e_gt, e_add, e_sub, List.map_cons, List.map_nil, List.length_cons, List.length_nil, List.replicate, List.cons_append, List.nil_append, List.append_nil, List.getElem?_cons_zero, List.getElem?_cons_succ, List.set_cons_zero, List.set_cons_succ, Nat.sub_self, Nat.reduceSub, Nat.reduceAdd, wipeE, c1']
      rw [s2']
      exact it_list g3) g3 (Nat.lt_succ_self _) (by rw [List.length_map]; omega) (fun _ _ _ => rfl) (fun q hq _ acc => by
      obtain ⟨x, hx, rfl⟩ := List.mem_map.mp hq
      obtain ⟨b1, b2, b3, b4, b5⟩ := back_ok (hn x (hAm x hx))
      have x0 : ∀ s : Sto, pIx (pair (cellA x) (cellB x)) (.int 0) s = .ok (.int (cellA x)) s := fun s => e_ixT s rfl
      have x1 : ∀ s : Sto, pIx (pair (cellA x) (cellB x)) (.int 1) s = .ok (.int (cellB x)) s := fun s => e_ixT s rfl
      simp only [bo__law_right_2, mkF, env0, dSeq, dSet, dIfS, dRet, dRetN, dExp, dBin, dUn, dVar, dC, dCons, dNil, dApp, dMet, dCall, dCallV, b_ok, b_bad, s_ok, f_rt, f_nx, dTB, dTst, dNotT, dOrT, dAndT, dAnd, dOr, dNot, dChain, dIf, dSkip, dNever, Tg.set, e_le, e_lt, e_ge, e_gt, e_add, e_sub, List.map_cons, List.map_nil, List.length_cons, List.length_nil, List.replicate, List.cons_append, List.nil_append, List.append_nil, List.getElem?_cons_zero, List.getElem?_cons_succ, List.set_cons_zero, List.set_cons_succ, Nat.sub_self, Nat.reduceSub, Nat.reduceAdd, wipeE, Nat.beq, if_true, x0, x1, cn_ok b2 b3 b4 b5]
      rfl)
  rw [all_true, List.map_map] at c2
  have c2' : dLc (dIt (dApp fSorted (dCons (dLc (dIt (dVar 1)) (.nm 3) (dYes) (bo__law_right_1) [3]) (dNil)))) (.nm 11) (dYes) (bo__law_right_2) [11] noTh [i0, some (.ref k1), i2, i3, i4, i5, i6, i7, i8, i9, i10, i11] (st ++ [.lst (A.map PV.str)]) = .ok (.ref (st.length + 3)) (st ++ [SO.lst (A.map PV.str), .lst (nms.map fun x => pair (cellA x) (cellB x)), .lst (A.map fun x => pair (cellA x) (cellB x)), .lst (A.map PV.str)]) := by
    rw [c2]
    have e : (st ++ [SO.lst (A.map PV.str), .lst (nms.map fun x => pair (cellA x) (cellB x)), .lst (A.map fun x => pair (cellA x) (cellB x))]).length = st.length + 3 := by simp
    have em : A.map ((fun q => match q with | .tup [.int a, .int b] => nameOf a b | _ => PV.non) ∘ fun x => pair (cellA x) (cellB x)) = A.map PV.str := List.map_congr_left fun x hx => (back_ok (hn x (hAm x hx))).1
    rw [e, em, List.append_assoc]
    rfl
  refine ⟨[SO.lst (A.map PV.str), .lst (nms.map fun x => pair (cellA x) (cellB x)), .lst (A.map fun x => pair (cellA x) (cellB x)), .lst (A.map PV.str)], ?_⟩
  simp only [mkF, env0, dSeq, dSet, dIfS, dRet, dRetN, dExp, dBin, dUn, dVar, dC, dCons, dNil, dApp, dMet, dCall, dCallV, b_ok, b_bad, s_ok, f_rt, f_nx, dTB, dTst, dNotT, dOrT, dAndT, dAnd, dOr, dNot, dChain, dIf, dSkip, dNever, Tg.set, e_le, e_lt, e_ge, e_gt, e_add, e_sub, List.map_cons, List.map_nil, List.length_cons, List.length_nil, List.replicate, List.cons_append, List.nil_append, List.append_nil, List.getElem?_cons_zero, List.getElem?_cons_succ, List.set_cons_zero, List.set_cons_succ, Nat.sub_self, Nat.reduceSub, Nat.reduceAdd, wipeE, s1, c2']
  rw [ne_lists (lst_of (get_end st _ _)) (lst_of (get_add st _ 3)) fun x hx => nm_ch (hn x (hAm x hx))]
  rfl
end K01
end
section
set_option maxRecDepth 100000
set_option maxHeartbeats 4000000
namespace K01
open PySem PySem.Spec PyProof.Rows L2 Mi
def Cell (y : PV) : Prop := ∃ v : Int, y = .int v ∧ 0 ≤ v ∧ v ≤ 996
theorem e_mul27 {r : Int} (h : 0 ≤ r) (h2 : r < 27) (s : Sto) : pMul (.int 27) (.int r) s = .ok (.int (27 * r)) s := e_mul s (cMul_small (x := 27) (y := r) (k := 5) (l := 5) (by decide) (by omega) (by decide))
theorem six_turn {w n : Nat} {st : Sto} {i1 i2 i3 i4 i5 i6 i7 i8 i9 i10 i11 : Option PV} (h : Well w n st) (hn : n ≤ 90000) :
    ∃ x y st', bo__law_right_0 noTh [some (.ref w), i1, i2, i3, i4, i5, i6, i7, i8, i9, i10, i11] st = .nx [some (.ref w), i1, i2, i3, i4, i5, some x, some y, i8, i9, i10, i11] st' ∧ Well w (n + 6) st' := by
  obtain ⟨r1, st1, e1, a1, b1, w1, _⟩ := drawn_ok (m := 997) h (by omega) (by decide) (by decide)
  obtain ⟨r2, st2, e2, a2, b2, w2, _⟩ := drawn_ok (m := 27) w1 (by omega) (by decide) (by decide)
  obtain ⟨x, st3, e3, hx, w3, _⟩ := given_ok (k := st2.length) (xs := [.int 0, .int 27, .int 28, .int 728, .int 729, .int 996, .int r1, .int (27 * r2)]) (st := st2 ++ [.lst [.int 0, .int 27, .int 28, .int 728, .int 729, .int 996, .int r1, .int (27 * r2)]]) w2.app (by omega) (get_end st2 _ []) (Nat.ne_of_gt w2.lt) (by simp) (by simp)
  obtain ⟨r3, st4, e4, a3, b3, w4, _⟩ := drawn_ok (m := 997) w3 (by omega) (by decide) (by decide)
  obtain ⟨r4, st5, e5, a4, b4, w5, _⟩ := drawn_ok (m := 27) w4 (by omega) (by decide) (by decide)
  obtain ⟨y, st6, e6, hy, w6, _⟩ := given_ok (k := st5.length) (xs := [.int 0, .int 0, .int 1, .int 26, .int 27, .int 728, .int 729, .int r3, .int (27 * r4)]) (st := st5 ++ [.lst [.int 0, .int 0, .int 1, .int 26, .int 27, .int 728, .int 729, .int r3, .int (27 * r4)]]) w5.app (by omega) (get_end st5 _ []) (Nat.ne_of_gt w5.lt) (by simp) (by simp)
  have hx' : Cell x := by
    simp only [List.mem_cons, List.not_mem_nil, or_false] at hx
    rcases hx with rfl | rfl | rfl | rfl | rfl | rfl | rfl | rfl <;> exact ⟨_, rfl, by omega, by omega⟩
  have hy' : Cell y := by
    simp only [List.mem_cons, List.not_mem_nil, or_false] at hy
    rcases hy with rfl | rfl | rfl | rfl | rfl | rfl | rfl | rfl | rfl <;> exact ⟨_, rfl, by omega, by omega⟩
  obtain ⟨a, rfl, p1, p2⟩ := hx'
  obtain ⟨b, rfl, q1, q2⟩ := hy'
  have f1 : ∀ s : Sto, fLst [.int 0, .int 27, .int 28, .int 728, .int 729, .int 996, .int r1, .int (27 * r2)] s = .ok (.ref s.length) (s ++ [.lst [.int 0, .int 27, .int 28, .int 728, .int 729, .int 996, .int r1, .int (27 * r2)]]) := fun s => rfl
  have f2 : ∀ s : Sto, fLst [.int 0, .int 0, .int 1, .int 26, .int 27, .int 728, .int 729, .int r3, .int (27 * r4)] s = .ok (.ref s.length) (s ++ [.lst [.int 0, .int 0, .int 1, .int 26, .int 27, .int 728, .int 729, .int r3, .int (27 * r4)]]) := fun s => rfl
  refine ⟨.int a, .int b, st6, ?_, w6.mono (by omega)⟩
  simp only [bo__law_right_0, mkF, env0, dSeq, dSet, dIfS, dRet, dRetN, dExp, dBin, dUn, dVar, dC, dCons, dNil, dApp, dMet, dCall, dCallV, b_ok, b_bad, s_ok, f_rt, f_nx, dTB, dTst, dNotT, dOrT, dAndT, dAnd, dOr, dNot, dChain, dIf, dSkip, dNever, Tg.set, e_le, e_lt, e_ge, e_gt, e_add, e_sub, List.map_cons, List.map_nil, List.length_cons, List.length_nil, List.replicate, List.cons_append, List.nil_append, List.append_nil, List.getElem?_cons_zero, List.getElem?_cons_succ, List.set_cons_zero, List.set_cons_succ, Nat.sub_self, Nat.reduceSub, Nat.reduceAdd, wipeE, Nat.beq, if_true, e1, e2, e_mul27 a2 b2, f1, e3, e4, e5, e_mul27 a4 b4, f2, e6, cn_ok p1 p2 q1 q2, sp_ok p1 p2 q1 q2, ne_nameOf]
/-! ### values near names and cells -/
def M1 (st : Sto) (x : PV) : Prop := x ∈ [PV.str [], .str [65], .str [97, 98, 99, 100, 101], .str [97, 32, 98], .str [97, 49], .str [97, 98, 10], .non, .int 5, .tup [.str [97]], .str [122], .str [122, 122, 122, 122], .str [97, 98, 99], .bl true] ∨ ∃ k, x = .ref k ∧ st[k]? = some (.lst [.str [97]])
def M2 (x : PV) : Prop := x ∈ [PV.int (-1), .int 997, .int 996, .int 0, .bl true, .non, .str [53], .tup [.int 5], .int (10 ^ 60)]
def M3 (st : Sto) (x : PV) : Prop := x ∈ [PV.tup [], .tup [.int 0, .int 996], .tup [.int 997], .tup [.bl true], .non, .tup [.str [49]], .tup [.int 1, .int (-1)], .int 5, .tup [.int 1, .tup [.int 2]]] ∨ (∃ k, x = .ref k ∧ st[k]? = some (.lst [.int 1])) ∨ ∃ k, x = .ref k ∧ st[k]? = some (.dct [])
theorem near_ok {w n : Nat} {st : Sto} (h : Well w n st) (hn : n ≤ 90000) : ∃ x y z st', f__law_near [.ref w] st = .ok (.tup [x, y, z]) st' ∧ M1 st' x ∧ M2 y ∧ M3 st' z ∧ Well w (n + 3) st' := by
  have hlt := h.lt
  obtain ⟨L1, hL1⟩ : ∃ L, L = [PV.str [], .str [65], .str [97, 98, 99, 100, 101], .str [97, 32, 98], .str [97, 49], .str [97, 98, 10], .non, .int 5, .tup [.str [97]], .ref st.length, .str [122], .str [122, 122, 122, 122], .str [97, 98, 99], .bl true] := ⟨_, rfl⟩
  obtain ⟨x, st1, e1, hx, w1, s1⟩ := given_ok (k := st.length + 1) (xs := L1) (st := st ++ [.lst [.str [97]], .lst L1]) h.app (by omega) (get_add st _ 1) (by omega) (by rw [hL1]; simp) (by rw [hL1]; simp)
  have k0 : st1[st.length]? = some (.lst [.str [97]]) := (s1.2 _ (by omega)).trans (get_end st _ _)
  obtain ⟨L2, hL2⟩ : ∃ L, L = [PV.int (-1), .int 997, .int 996, .int 0, .bl true, .non, .str [53], .tup [.int 5], .int (10 ^ 60)] := ⟨_, rfl⟩
  obtain ⟨y, st2, e2, hy, w2, s2⟩ := given_ok (k := st1.length) (xs := L2) (st := st1 ++ [.lst L2]) w1.app (by omega) (get_end st1 _ []) (Nat.ne_of_gt w1.lt) (by rw [hL2]; simp) (by rw [hL2]; simp)
  have k1 : st2[st.length]? = some (.lst [.str [97]]) := (s2.2 _ (by omega)).trans (get_app k0)
  obtain ⟨L3, hL3⟩ : ∃ L, L = [PV.tup [], .tup [.int 0, .int 996], .tup [.int 997], .ref st2.length, .tup [.bl true], .non, .tup [.str [49]], .tup [.int 1, .int (-1)], .int 5, .tup [.int 1, .tup [.int 2]], .ref (st2.length + 1)] := ⟨_, rfl⟩
  have hw2 := w2.lt
  obtain ⟨z, st3, e3, hz, w3, s3⟩ := given_ok (k := st2.length + 2) (xs := L3) (st := st2 ++ [.lst [.int 1], .dct [], .lst L3]) w2.app (by omega) (get_add st2 _ 2) (by omega) (by rw [hL3]; simp) (by rw [hL3]; simp)
  have k2 : st3[st.length]? = some (.lst [.str [97]]) := (s3.2 _ (by omega)).trans (get_app k1)
  have k3 : st3[st2.length]? = some (.lst [.int 1]) := (s3.2 _ (by omega)).trans (get_end st2 _ _)
  have k4 : st3[st2.length + 1]? = some (.dct []) := (s3.2 _ (by omega)).trans (get_add st2 _ 1)
  refine ⟨x, y, z, st3, ?_, ?_, ?_, ?_, w3⟩
  · have f0 : ∀ s : Sto, fLst [.str [97]] s = .ok (.ref s.length) (s ++ [.lst [.str [97]]]) := fun s => rfl
    have f1 : fLst [.str [], .str [65], .str [97, 98, 99, 100, 101], .str [97, 32, 98], .str [97, 49], .str [97, 98, 10], .non, .int 5, .tup [.str [97]], .ref st.length, .str [122], .str [122, 122, 122, 122], .str [97, 98, 99], .bl true] (st ++ [.lst [.str [97]]]) = .ok (.ref (st.length + 1)) (st ++ [.lst [.str [97]], .lst L1]) := by
      rw [hL1, e_lst rfl, List.append_assoc]
      simp
    have t1 : ∀ (p : PV) (s : Sto), fTup [p] s = .ok (.tup [p]) s := fun p s => rfl
    have t0 : ∀ (s : Sto), fTup [] s = .ok (.tup []) s := fun s => rfl
    have n1 : ∀ s : Sto, pNeg (.int 1) s = .ok (.int (-1)) s := fun s => rfl
    have p1 : ∀ s : Sto, pPow (.int 10) (.int 60) s = .ok (.int (10 ^ 60)) s := fun s => by
      have hc : cPow 10 60 = true := by decide +kernel
      show (if cPow 10 60 = true then Res.ok (PV.int (10 ^ (60 : Int).toNat)) s else .bad) = _
      rw [if_pos hc]
      rfl
    have f2 : ∀ s : Sto, fLst [.int (-1), .int 997, .int 996, .int 0, .bl true, .non, .str [53], .tup [.int 5], .int (10 ^ 60)] s = .ok (.ref s.length) (s ++ [.lst L2]) := fun s => by
      rw [hL2]
      exact e_lst rfl s
    have f3 : ∀ s : Sto, fLst [.int 1] s = .ok (.ref s.length) (s ++ [.lst [.int 1]]) := fun s => rfl
    have ld : (st2 ++ [SO.lst [.int 1]]).length = st2.length + 1 := by simp
    have f4 : fLst [.tup [], .tup [.int 0, .int 996], .tup [.int 997], .ref st2.length, .tup [.bl true], .non, .tup [.str [49]], .tup [.int 1, .int (-1)], .int 5, .tup [.int 1, .tup [.int 2]], .ref (st2.length + 1)] (st2 ++ [.lst [.int 1], .dct []]) = .ok (.ref (st2.length + 2)) (st2 ++ [.lst [.int 1], .dct [], .lst L3]) := by
      rw [hL3, e_lst rfl, List.append_assoc]
      simp
    have t3 : ∀ (a b c : PV) (s : Sto), fTup [a, b, c] s = .ok (.tup [a, b, c]) s := fun a b c s => rfl
    simp only [f__law_near, m__law_near, d__law_near, mkF, env0, dSeq, dSet, dIfS, dRet, dRetN, dExp, dBin, dUn, dVar, dC, dCons, dNil, dApp, dMet, dCall, dCallV, b_ok, b_bad, s_ok, f_rt, f_nx, dTB, dTst, dNotT, dOrT, dAndT, dAnd, dOr, dNot, dChain, dIf, dSkip, dNever, Tg.set, e_le, e_lt, e_ge, e_gt, e_add, e_sub, List.map_cons, List.map_nil, List.length_cons, List.length_nil, List.replicate, List.cons_append, List.nil_append, List.append_nil, List.getElem?_cons_zero, List.getElem?_cons_succ, List.set_cons_zero, List.set_cons_succ, Nat.sub_self, Nat.reduceSub, Nat.reduceAdd, wipeE, Nat.beq, if_true, f0, t1, f1, e1, n1, p1, f2, e2, t0, e_tup2, f3, dDict0, ld, List.append_assoc]
    rw [f4]
    simp only [mkF, env0, dSeq, dSet, dIfS, dRet, dRetN, dExp, dBin, dUn, dVar, dC, dCons, dNil, dApp, dMet, dCall, dCallV, b_ok, b_bad, s_ok, f_rt, f_nx, dTB, dTst, dNotT, dOrT, dAndT, dAnd, dOr, dNot, dChain, dIf, dSkip, dNever, Tg.set, e_le, e_lt, e_ge, e_gt, e_add, e_sub, List.map_cons, List.map_nil, List.length_cons, List.length_nil, List.replicate, List.cons_append, List.nil_append, List.append_nil, List.getElem?_cons_zero, List.getElem?_cons_succ, List.set_cons_zero, List.set_cons_succ, Nat.sub_self, Nat.reduceSub, Nat.reduceAdd, wipeE, Nat.beq, if_true, e3, t3]
  · rw [hL1] at hx
    simp only [List.mem_cons, List.not_mem_nil, or_false] at hx
    unfold M1
    simp only [List.mem_cons, List.not_mem_nil, or_false]
    rcases hx with h | h | h | h | h | h | h | h | h | h | h | h | h | h
    case inr.inr.inr.inr.inr.inr.inr.inr.inr.inl => exact .inr ⟨_, h, k2⟩
    all_goals exact .inl (by simp [h])
  · rw [hL2] at hy
    exact hy
  · rw [hL3] at hz
    simp only [List.mem_cons, List.not_mem_nil, or_false] at hz
    unfold M3
    simp only [List.mem_cons, List.not_mem_nil, or_false]
    rcases hz with h | h | h | h | h | h | h | h | h | h | h
    case inr.inr.inr.inl => exact .inr (.inl ⟨_, h, k3⟩)
    case inr.inr.inr.inr.inr.inr.inr.inr.inr.inr => exact .inr (.inr ⟨_, h, k4⟩)
    all_goals exact .inl (by simp [h])
end K01
end
section
set_option maxRecDepth 100000
set_option maxHeartbeats 4000000
namespace K01
open PySem PySem.Spec PyProof.Rows L2 Mi
abbrev T1 : PV := .tup [.str [122], .str [122, 122, 122, 122], .str [97, 98, 99]]
abbrev T2 : PV := .tup [.str [57, 57, 54], .str [48]]
abbrev T3 : PV := .tup [.tup [], .tup [.int 0, .int 996]]
theorem isD_lst {s : Sto} {k : Nat} {xs : List PV} (h : s[k]? = some (.lst xs)) : isD s (.ref k) = false := by
  unfold isD
  dsimp only
  rw [h]
theorem isD_dct {s : Sto} {k : Nat} {xs : List (Key × PV)} (h : s[k]? = some (.dct xs)) : isD s (.ref k) = true := by
  unfold isD
  dsimp only
  rw [h]
theorem ty_lst1 {s : Sto} {k : Nat} {xs : List PV} (h : s[k]? = some (.lst xs)) : tyOf s (.ref k) = some .list := by
  unfold tyOf
  dsimp only
  rw [h]
theorem ty_dct1 {s : Sto} {k : Nat} {xs : List (Key × PV)} (h : s[k]? = some (.dct xs)) : tyOf s (.ref k) = some .dict := by
  unfold tyOf
  dsimp only
  rw [h]
theorem m1_ok {s : Sto} {x : PV} (h : M1 s x) : ∃ b, f_is_name [x] s = .ok (.bl b) s ∧ ∀ g, pInK x T1 (s ++ g) = .ok (.bl b) (s ++ g) := by
  rcases h with h | ⟨k, rfl, hk⟩
  · simp only [List.mem_cons, List.not_mem_nil, or_false] at h
    rcases h with rfl | rfl | rfl | rfl | rfl | rfl | rfl | rfl | rfl | rfl | rfl | rfl | rfl
    · exact ⟨false, by kernel_rfl, fun g => by kernel_rfl⟩
    · exact ⟨false, by kernel_rfl, fun g => by kernel_rfl⟩
    · exact ⟨false, by kernel_rfl, fun g => by kernel_rfl⟩
    · exact ⟨false, by kernel_rfl, fun g => by kernel_rfl⟩
    · exact ⟨false, by kernel_rfl, fun g => by kernel_rfl⟩
    · exact ⟨false, by kernel_rfl, fun g => by kernel_rfl⟩
    · exact ⟨false, by kernel_rfl, fun g => by kernel_rfl⟩
    · exact ⟨false, by kernel_rfl, fun g => by kernel_rfl⟩
    · exact ⟨false, by kernel_rfl, fun g => by kernel_rfl⟩
    · exact ⟨true, by kernel_rfl, fun g => by kernel_rfl⟩
    · exact ⟨true, by kernel_rfl, fun g => by kernel_rfl⟩
    · exact ⟨true, by kernel_rfl, fun g => by kernel_rfl⟩
    · exact ⟨false, by kernel_rfl, fun g => by kernel_rfl⟩
  · refine ⟨false, ?_, fun g => ?_⟩
    · show s_is_name _ s = _
      unfold s_is_name
      dsimp only
      rw [ty_lst1 hk]
    · have hk2 : (s ++ g)[k]? = some (.lst [.str [97]]) := get_app hk
      have hd := dat_strs (s := s ++ g) (k := k) (ss := [[97]]) (lst_of hk2) (by decide)
      have e : pInB (.ref k) T1 (s ++ g) = some false := by
        show (match dat 60 (s ++ g) (.ref k) with
          | some d => match datsOf (s ++ g) [.str [122], .str [122, 122, 122, 122], .str [97, 98, 99]] with
            | some ds => some (ds.any fun z => PyData.eqv z d)
            | none => none
          | none => none) = _
        rw [hd]
        kernel_rfl
      unfold pInK
      rw [isD_lst hk2]
      unfold pIn
      dsimp only
      rw [e]
theorem m2_ok {y : PV} (h : M2 y) : ∃ b t, (∀ s, f_is_cell [y] s = .ok (.bl b) s) ∧ (∀ s, fRepr [y] s = .ok (.str t) s) ∧ ∀ s, pInK (.str t) T2 s = .ok (.bl b) s := by
  unfold M2 at h
  simp only [List.mem_cons, List.not_mem_nil, or_false] at h
  rcases h with rfl | rfl | rfl | rfl | rfl | rfl | rfl | rfl | rfl
  · exact ⟨false, [45, 49], fun s => by kernel_rfl, fun s => by kernel_rfl, fun s => by kernel_rfl⟩
  · exact ⟨false, [57, 57, 55], fun s => by kernel_rfl, fun s => by kernel_rfl, fun s => by kernel_rfl⟩
  · exact ⟨true, [57, 57, 54], fun s => by kernel_rfl, fun s => by kernel_rfl, fun s => by kernel_rfl⟩
  · exact ⟨true, [48], fun s => by kernel_rfl, fun s => by kernel_rfl, fun s => by kernel_rfl⟩
  · exact ⟨false, [84, 114, 117, 101], fun s => by kernel_rfl, fun s => by kernel_rfl, fun s => by kernel_rfl⟩
  · exact ⟨false, [78, 111, 110, 101], fun s => by kernel_rfl, fun s => by kernel_rfl, fun s => by kernel_rfl⟩
  · exact ⟨false, [39, 53, 39], fun s => by kernel_rfl, fun s => by kernel_rfl, fun s => by kernel_rfl⟩
  · exact ⟨false, [40, 53, 44, 41], fun s => by kernel_rfl, fun s => by kernel_rfl, fun s => by kernel_rfl⟩
  · exact ⟨false, 49 :: List.replicate 60 48, fun s => by kernel_rfl, fun s => by kernel_rfl, fun s => by kernel_rfl⟩
theorem m3_ok {s : Sto} {z : PV} (h : M3 s z) : ∃ b, f_is_cells [z] s = .ok (.bl b) s ∧ ∀ g, pInK z T3 (s ++ g) = .ok (.bl b) (s ++ g) := by
  rcases h with h | ⟨k, rfl, hk⟩ | ⟨k, rfl, hk⟩
  · simp only [List.mem_cons, List.not_mem_nil, or_false] at h
    rcases h with rfl | rfl | rfl | rfl | rfl | rfl | rfl | rfl | rfl
    · exact ⟨true, by kernel_rfl, fun g => by kernel_rfl⟩
    · exact ⟨true, by kernel_rfl, fun g => by kernel_rfl⟩
    · exact ⟨false, by kernel_rfl, fun g => by kernel_rfl⟩
    · exact ⟨false, by kernel_rfl, fun g => by kernel_rfl⟩
    · exact ⟨false, by kernel_rfl, fun g => by kernel_rfl⟩
    · exact ⟨false, by kernel_rfl, fun g => by kernel_rfl⟩
    · exact ⟨false, by kernel_rfl, fun g => by kernel_rfl⟩
    · exact ⟨false, by kernel_rfl, fun g => by kernel_rfl⟩
    · exact ⟨false, by kernel_rfl, fun g => by kernel_rfl⟩
  · refine ⟨false, ?_, fun g => ?_⟩
    · show s_is_cells _ s = _
      unfold s_is_cells
      dsimp only
      rw [ty_lst1 hk]
    · have hk2 : (s ++ g)[k]? = some (.lst [.int 1]) := get_app hk
      have hd : dat 60 (s ++ g) (.ref k) = some (.list [.int 1]) := by
        show (match lstAt (s ++ g) k with
          | some xs => match mapO (dat 59 (s ++ g)) xs with
            | some ds => some (PyData.list ds)
            | none => none
          | none => none) = _
        rw [lst_of hk2]
        rfl
      have e : pInB (.ref k) T3 (s ++ g) = some false := by
        show (match dat 60 (s ++ g) (.ref k) with
          | some d => match datsOf (s ++ g) [.tup [], .tup [.int 0, .int 996]] with
            | some ds => some (ds.any fun z => PyData.eqv z d)
            | none => none
          | none => none) = _
        rw [hd]
        kernel_rfl
      unfold pInK
      rw [isD_lst hk2]
      unfold pIn
      dsimp only
      rw [e]
  · refine ⟨false, ?_, fun g => ?_⟩
    · show s_is_cells _ s = _
      unfold s_is_cells
      dsimp only
      rw [ty_dct1 hk]
    · have hk2 : (s ++ g)[k]? = some (.dct []) := get_app hk
      unfold pInK
      rw [isD_dct hk2]
      rfl
theorem eq_bls {s : Sto} {j k : Nat} {a b c : Bool} (h : s[j]? = some (.lst [.bl a, .bl b, .bl c])) (h2 : s[k]? = some (.lst [.bl a, .bl b, .bl c])) : pEq (.ref j) (.ref k) s = .ok (.bl true) s := by
  have hd : ∀ {i : Nat}, s[i]? = some (.lst [.bl a, .bl b, .bl c]) → dat 60 s (.ref i) = some (.list [.bool a, .bool b, .bool c]) := fun {i} h => by
    show (match lstAt s i with
      | some xs => match mapO (dat 59 s) xs with
        | some ds => some (PyData.list ds)
        | none => none
      | none => none) = _
    rw [lst_of h]
    rfl
  have e : pEqB (.ref j) (.ref k) s = some true := by
    show (match dat 60 s (.ref j) with
      | some d => match dat 60 s (.ref k) with
        | some e => some (PyData.eqv d e)
        | none => none
      | none => none) = _
    rw [hd h, hd h2]
    cases a <;> cases b <;> cases c <;> kernel_rfl
  unfold pEq
  rw [e]
end K01
end
section
set_option maxRecDepth 100000
set_option maxHeartbeats 4000000
namespace K01
open PySem PySem.Spec PyProof.Rows L2 Mi
theorem get_lt5 (w : Nat) (k1 : Nat) (a b c d e f g h i j : Option PV) (x : PV) : Tg.set (.nm 2) x [some (.ref w), some (.ref k1), a, b, c, d, e, f, g, h, i, j] = some [some (.ref w), some (.ref k1), some x, b, c, d, e, f, g, h, i, j] := rfl
theorem right_ok {w n : Nat} {st : Sto} (h : Well w n st) (hn : n ≤ 50000) : ∃ st', f__law_right [.ref w] st = .ok (.bl true) st' ∧ Fz st' := by
  have hlt := h.lt
  -- the names
  obtain ⟨env1, st1, e1, ⟨i2, i5, nms, rfl, w1, k1, hl1, hn1⟩⟩ := forV_inv (B := 5) (t := .nm 2) (body := bo__law_right_5) (th := noTh) (I := fun m env s => ∃ (i2 i5 : Option PV) (nms : List (List Nat)), env = [some (.ref w), some (.ref st.length), i2, none, none, i5, none, none, none, none, none, none] ∧ Well w (n + 5 * m) s ∧ s[st.length]? = some (.lst (nms.map PV.str)) ∧ nms.length = m ∧ ∀ x ∈ nms, nmB x = true)
    (rngV 0 1 5) (fun x _ m env s hm hi => by
      obtain ⟨i2, i5, nms, rfl, hw, hk, hl, hnm⟩ := hi
      refine ⟨_, rfl, ?_⟩
      obtain ⟨D, y, s', e, hy, hw2, hk2⟩ := names_turn (i2 := some x) (i3 := none) (i4 := none) (i5 := i5) (i6 := none) (i7 := none) (i8 := none) (i9 := none) (i10 := none) (i11 := none) hw (by omega) hk (by omega) (by omega)
      refine ⟨_, s', e, some x, some (.ref D), nms ++ [y], rfl, hw2.mono (by omega), hk2, by rw [List.length_append, hl]; rfl, fun z hz => ?_⟩
      rcases List.mem_append.mp hz with hz | hz
      · exact hnm z hz
      · rw [List.mem_singleton.mp hz]
        exact hy) 0 [some (.ref w), some (.ref st.length), none, none, none, none, none, none, none, none, none, none] (st ++ [.lst []]) (by rw [rngV_len]; exact Nat.le_refl _) ⟨none, none, [], rfl, h.app.mono (by omega), get_end st _ [], rfl, fun z hz => nomatch hz⟩
  rw [rngV_len] at hl1 w1
  -- each is judged
  have l1 := lst_of k1
  obtain ⟨env2, st2, e2, ⟨i3, rfl, rfl⟩⟩ := forL_inv (t := .nm 3) (body := bo__law_right_3) (th := noTh) (k := st.length) (ys := nms.map PV.str) (I := fun _ env s => ∃ i3, env = [some (.ref w), some (.ref st.length), i2, i3, none, i5, none, none, none, none, none, none] ∧ st1 = s)
    (fun m env s hi => by
      obtain ⟨_, _, rfl⟩ := hi
      exact l1) (fun x hx m env s hi => by
      obtain ⟨i3, rfl, rfl⟩ := hi
      obtain ⟨y, hy, rfl⟩ := List.mem_map.mp hx
      exact ⟨_, rfl, _, _, check_turn (hn1 y hy) st1, _, rfl, rfl⟩) (nms.map PV.str) 0 ((nms.map PV.str).length + 1) 0 [some (.ref w), some (.ref st.length), i2, none, none, i5, none, none, none, none, none, none] st1 rfl (Nat.lt_succ_self _) ⟨none, rfl, rfl⟩
  -- their sequence
  obtain ⟨g, e3⟩ := sort_ok (i0 := some (.ref w)) (i2 := i2) (i3 := i3) (i4 := none) (i5 := i5) (i6 := none) (i7 := none) (i8 := none) (i9 := none) (i10 := none) (i11 := none) k1 (by
    intro z
    rw [z] at hl1
    cases hl1) (by omega) hn1
  -- six turns
  obtain ⟨env4, st4, e4, ⟨j2, j6, j7, rfl, w4⟩⟩ := forV_inv (B := 6) (t := .nm 2) (body := bo__law_right_0) (th := noTh) (I := fun m env s => ∃ (j2 j6 j7 : Option PV), env = [some (.ref w), some (.ref st.length), j2, i3, none, i5, j6, j7, none, none, none, none] ∧ Well w (n + 25 + 6 * m) s)
    (rngV 0 1 6) (fun x _ m env s hm hi => by
      obtain ⟨j2, j6, j7, rfl, hw⟩ := hi
      refine ⟨_, rfl, ?_⟩
      obtain ⟨a, b, s', e, hw2⟩ := six_turn (i1 := some (.ref st.length)) (i2 := some x) (i3 := i3) (i4 := none) (i5 := i5) (i6 := j6) (i7 := j7) (i8 := none) (i9 := none) (i10 := none) (i11 := none) hw (by omega)
      exact ⟨_, s', e, some x, some a, some b, rfl, hw2.mono (by omega)⟩) 0 [some (.ref w), some (.ref st.length), i2, i3, none, i5, none, none, none, none, none, none] (st1 ++ g) (by rw [rngV_len]; exact Nat.le_refl _) ⟨i2, none, none, rfl, w1.app.mono (by omega)⟩
  rw [rngV_len] at w4
  -- values near by
  obtain ⟨x, y, z, st5, e5, m1, m2, m3, w5⟩ := near_ok w4 (by omega)
  obtain ⟨b1, a1, t1⟩ := m1_ok m1
  obtain ⟨b2, tx, a2, a3, t2⟩ := m2_ok m2
  obtain ⟨b3, a4, t3⟩ := m3_ok m3
  have r5 : ∀ s, fRng1 [.int 5] s = .ok (.vals (rngV 0 1 5)) s := fun s => rfl
  have r6 : ∀ s, fRng1 [.int 6] s = .ok (.vals (rngV 0 1 6)) s := fun s => rfl
  have f0 : ∀ s, fLst [] s = .ok (.ref s.length) (s ++ [.lst []]) := fun s => rfl
  have f3 : ∀ (p q r : PV) (s : Sto), fLst [p, q, r] s = .ok (.ref s.length) (s ++ [.lst [p, q, r]]) := fun p q r s => rfl
  have t33 : ∀ (a b c : PV) (s : Sto), fTup [a, b, c] s = .ok (.tup [a, b, c]) s := fun a b c s => rfl
  have t0 : ∀ (s : Sto), fTup [] s = .ok (.tup []) s := fun s => rfl
  have la : (st5 ++ [SO.lst [.bl b1, .bl b2, .bl b3]]).length = st5.length + 1 := by simp
  have ee : pEq (.ref st5.length) (.ref (st5.length + 1)) (st5 ++ [SO.lst [.bl b1, .bl b2, .bl b3], SO.lst [.bl b1, .bl b2, .bl b3]]) = .ok (.bl true) (st5 ++ [SO.lst [.bl b1, .bl b2, .bl b3], SO.lst [.bl b1, .bl b2, .bl b3]]) := by
    apply eq_bls
    · rw [List.getElem?_append_right (Nat.le_refl _), Nat.sub_self]
      rfl
    · rw [List.getElem?_append_right (by omega), Nat.add_sub_cancel_left]
      rfl
  have e5a := t1 [SO.lst [.bl b1, .bl b2, .bl b3]]
  have e5c := t3 [SO.lst [.bl b1, .bl b2, .bl b3]]
  simp only [mkF, env0, dSeq, dSet, dIfS, dRet, dRetN, dExp, dBin, dUn, dVar, dC, dCons, dNil, dApp, dMet, dCall, dCallV, b_ok, b_bad, s_ok, f_rt, f_nx, dTB, dTst, dNotT, dOrT, dAndT, dAnd, dOr, dNot, dChain, dIf, dSkip, dNever, Tg.set, e_le, e_lt, e_ge, e_gt, e_add, e_sub, List.map_cons, List.map_nil, List.length_cons, List.length_nil, List.replicate, List.cons_append, List.nil_append, List.append_nil, List.getElem?_cons_zero, List.getElem?_cons_succ, List.set_cons_zero, List.set_cons_succ, Nat.sub_self, Nat.reduceSub, Nat.reduceAdd, wipeE, dIt, e_tup2] at e3
  refine ⟨st5 ++ [SO.lst [.bl b1, .bl b2, .bl b3], SO.lst [.bl b1, .bl b2, .bl b3]], ?_, w5.fz.app⟩
  simp only [f__law_right, m__law_right, d__law_right, mkF, env0, dSeq, dSet, dIfS, dRet, dRetN, dExp, dBin, dUn, dVar, dC, dCons, dNil, dApp, dMet, dCall, dCallV, b_ok, b_bad, s_ok, f_rt, f_nx, dTB, dTst, dNotT, dOrT, dAndT, dAnd, dOr, dNot, dChain, dIf, dSkip, dNever, Tg.set, e_le, e_lt, e_ge, e_gt, e_add, e_sub, List.map_cons, List.map_nil, List.length_cons, List.length_nil, List.replicate, List.cons_append, List.nil_append, List.append_nil, List.getElem?_cons_zero, List.getElem?_cons_succ, List.set_cons_zero, List.set_cons_succ, Nat.sub_self, Nat.reduceSub, Nat.reduceAdd, wipeE, dFor, dRng, dIt, f0, r5, e1, it_list l1, e2, e3, r6, e4, Nat.beq, if_true, e5, Tg.sets, a1, a2, a4, f3, t33, t1, a3, t2, t0, e_tup2, t3, la, e5a, e5c, ee, List.append_assoc]
  done
end K01
end
section
set_option maxRecDepth 100000
set_option maxHeartbeats 4000000
namespace K01
open PySem PySem.Spec PyProof.Rows L2 Mi
theorem ints_self : ∀ ns : List Int, intsOf (ns.map PV.int) = some ns
  | [] => rfl
  | n :: r => by
    rw [List.map_cons]
    unfold intsOf
    rw [ints_self r]
theorem e_abs (i : Int) (st : Sto) : fAbs [.int i] st = .ok (.int (if i < 0 then -i else i)) st := rfl
theorem e_intb (b : Bool) (st : Sto) : fInt [.bl b] st = .ok (.int (if b then 1 else 0)) st := rfl
theorem e_max2 (i j : Int) (st : Sto) : fMax [.int i, .int j] st = .ok (.int (if j > i then j else i)) st := rfl
theorem e_min2 (i j : Int) (st : Sto) : fMin [.int i, .int j] st = .ok (.int (if j < i then j else i)) st := rfl
theorem mk_seq {n : Nat} {A B : DS} {ps : List PV} {env : Mi.Env} {st s s' : Sto} {r : PV} (h1 : A noTh (env0 n ps) st = .nx env s) (h2 : B noTh env s = .rt r s') : mkF n (dSeq A B) ps st = .ok r s' := by
  unfold mkF dSeq
  rw [h1]
  dsimp only
  rw [h2]
  rfl
theorem cut1 (ns : List Int) : ∃ ms : List Int, cutP (ns.map PV.int) none (some 1) = ms.map PV.int := by
  unfold cutP
  rw [← List.map_drop, ← List.map_take]
  exact ⟨_, rfl⟩
theorem well_ok {st : Sto} {i : Nat} (h : Fz st) (hi : i < 4) : ∃ w st', f__law_well [.ref 0, .int i] st = .ok (.ref w) st' ∧ Well w 0 st' := by
  obtain ⟨ns, hz⟩ := h
  have l0 : lstAt st 0 = some (ns.map .int) := by
    unfold lstAt
    rw [hz]
  have p1 : ∀ s, pPow (.int 10) (.int 57) s = .ok (.int (10 ^ 57)) s := fun s => by kernel_rfl
  have p2 : ∀ s, pPow (.int (10 ^ 57)) (.int 8) s = .ok (.int ((10 ^ 57) ^ 8)) s := fun s => by kernel_rfl
  have p3 : ∀ s, pPow (.int 10) (.int 16) s = .ok (.int (10 ^ 16)) s := fun s => by kernel_rfl
  have hM : (0 : Int) < (10 ^ 57) ^ 8 := by decide +kernel
  have m7 : ∀ s, pMul (.int 7001) (.int i) s = .ok (.int (7001 * i)) s := fun s => e_mul s (cMul_small (x := 7001) (y := i) (k := 13) (l := 3) (by decide) (by omega) (by decide))
  have m5 : ∀ (b : Bool) s, pMul (.int 53) (.int (if b then 1 else 0)) s = .ok (.int (53 * (if b then 1 else 0))) s := fun b s => e_mul s (by cases b <;> rfl)
  have key : ∀ (v : Int) (s : Sto), Fz s → ∃ a b : Int, dSeq (dSet (.nm 3) (dBin pMod (dApp fInt (dCons (dApp fAbs (dCons (dVar 2) (dNil))) (dNil))) (dBin pPow (dBin pPow (dC (.int 10)) (dC (.int 57))) (dC (.int 8))))) (dSeq (dSet (.nm 4) (dApp fInt (dCons (dBin pAdd (dBin pAdd (dBin pAdd (dBin pMul (dBin pMod (dVar 3) (dC (.int 2305843009213693921))) (dC (.int 60091))) (dBin pMul (dC (.int 7001)) (dVar 1))) (dBin pMul (dC (.int 53)) (dApp fInt (dCons (dBin pLt (dVar 2) (dC (.int 0))) (dNil))))) (dC (.int 97))) (dNil)))) (dRet (dApp fLst (dCons (dApp fMax (dCons (dC (.int 0)) (dCons (dBin pSub (dVar 3) (dBin pPow (dC (.int 10)) (dC (.int 16)))) (dNil)))) (dCons (dBin pMod (dVar 4) (dC (.int 2305843009213693951))) (dCons (dC (.int 0)) (dNil))))))) noTh [some (.ref 0), some (.int i), some (.int v), none, none] s = .rt (.ref s.length) (s ++ [.lst [.int a, .int b, .int 0]]) := by
    intro v s hs
    have f3 : ∀ (p q r : PV) (s : Sto), fLst [p, q, r] s = .ok (.ref s.length) (s ++ [.lst [p, q, r]]) := fun p q r s => rfl
    have q1 := Int.emod_nonneg ((if v < 0 then -v else v) % (10 ^ 57) ^ 8) (show (2305843009213693921 : Int) ≠ 0 by decide)
    have q2 := Int.emod_lt_of_pos ((if v < 0 then -v else v) % (10 ^ 57) ^ 8) (show (0 : Int) < 2305843009213693921 by decide)
    generalize hg : (if v < 0 then -v else v) % (10 ^ 57) ^ 8 = g at q1 q2
    have m6 : ∀ s, pMul (.int (g % 2305843009213693921)) (.int 60091) s = .ok (.int (g % 2305843009213693921 * 60091)) s := fun s => e_mul s (cMul_small (x := g % 2305843009213693921) (y := 60091) (k := 61) (l := 16) (by omega) (by decide) (by decide))
    refine ⟨if g - 10 ^ 16 > 0 then g - 10 ^ 16 else 0, (g % 2305843009213693921 * 60091 + 7001 * i + 53 * (if decide (v < 0) then 1 else 0) + 97) % 2305843009213693951, ?_⟩
    simp only [mkF, env0, dSeq, dSet, dIfS, dRet, dRetN, dExp, dBin, dUn, dVar, dC, dCons, dNil, dApp, dMet, dCall, dCallV, b_ok, b_bad, s_ok, f_rt, f_nx, dTB, dTst, dNotT, dOrT, dAndT, dAnd, dOr, dNot, dChain, dIf, dSkip, dNever, Tg.set, e_le, e_lt, e_ge, e_gt, e_add, e_sub, List.map_cons, List.map_nil, List.length_cons, List.length_nil, List.replicate, List.cons_append, List.nil_append, List.append_nil, List.getElem?_cons_zero, List.getElem?_cons_succ, List.set_cons_zero, List.set_cons_succ, Nat.sub_self, Nat.reduceSub, Nat.reduceAdd, wipeE, e_abs, e_int, p1, p2, e_mod _ hM, hg, e_mod _ (show (0 : Int) < 2305843009213693921 by decide), m6, m7, e_intb, m5, p3, e_max2, e_mod _ (show (0 : Int) < 2305843009213693951 by decide), f3]
  have le := e_lenR l0
  rw [List.length_map] at le
  by_cases hl : (i : Int) < ns.length
  · have hn : i < ns.length := by omega
    have ix := e_ixR (i := (i : Int)) (v := .int ns[i]) l0 (by
      unfold atI ixN
      rw [List.length_map, if_pos (by omega), if_pos (by omega)]
      show (ns.map PV.int)[i]? = _
      rw [List.getElem?_map, List.getElem?_eq_getElem hn]
      rfl)
    obtain ⟨a, b, e⟩ := key ns[i] st ⟨ns, hz⟩
    refine ⟨_, _, mk_seq (A := dSet (.nm 2) (dIf (dTB (dBin pLt (dVar 1) (dApp fLen (dCons (dVar 0) (dNil))))) (dApp fInt (dCons (dBin pIx (dVar 0) (dVar 1)) (dNil))) (dBin pAdd (dBin pAdd (dBin pMul (dC (.int 4001)) (dVar 1)) (dC (.int 71))) (dBin pMod (dApp fInt (dCons (dApp fSum (dCons (dSl (dVar 0) (dNoP) (dPt (dC (.int 1)))) (dNil))) (dNil))) (dC (.int 1000231)))))) ?_ e, ⟨a, b, 0, get_end st _ [], Int.le_refl _, Int.le_refl _, Fz.app ⟨ns, hz⟩⟩⟩
    simp only [mkF, env0, dSeq, dSet, dIfS, dRet, dRetN, dExp, dBin, dUn, dVar, dC, dCons, dNil, dApp, dMet, dCall, dCallV, b_ok, b_bad, s_ok, f_rt, f_nx, dTB, dTst, dNotT, dOrT, dAndT, dAnd, dOr, dNot, dChain, dIf, dSkip, dNever, Tg.set, e_le, e_lt, e_ge, e_gt, e_add, e_sub, List.map_cons, List.map_nil, List.length_cons, List.length_nil, List.replicate, List.cons_append, List.nil_append, List.append_nil, List.getElem?_cons_zero, List.getElem?_cons_succ, List.set_cons_zero, List.set_cons_succ, Nat.sub_self, Nat.reduceSub, Nat.reduceAdd, wipeE, le, hl, decide_true, ix, e_int]
  · obtain ⟨ms, hc⟩ := cut1 ns
    have sl : ∀ th env, dSl (dVar 0) dNoP (dPt (dC (.int 1))) th (some (.ref 0) :: env) st = .ok (.ref st.length) (st ++ [.lst (ms.map .int)]) := by
      intro th env
      show (match lstAt st 0 with
        | some xs => Res.ok (PV.ref st.length) (st ++ [SO.lst (cutP xs none (some 1))])
        | none => .bad) = _
      rw [l0]
      dsimp only
      rw [hc]
    have m4 : ∀ s, pMul (.int 4001) (.int i) s = .ok (.int (4001 * i)) s := fun s => e_mul s (cMul_small (x := 4001) (y := i) (k := 13) (l := 3) (by decide) (by omega) (by decide))
    have sm : fSum [.ref st.length] (st ++ [.lst (ms.map .int)]) = .ok (.int ms.sum) (st ++ [.lst (ms.map .int)]) := by
      unfold fSum
      dsimp only
      rw [lst_end]
      dsimp only
      rw [ints_self]
    obtain ⟨a, b, e⟩ := key (4001 * i + 71 + ms.sum % 1000231) (st ++ [.lst (ms.map .int)]) (Fz.app ⟨ns, hz⟩)
    refine ⟨_, _, mk_seq (A := dSet (.nm 2) (dIf (dTB (dBin pLt (dVar 1) (dApp fLen (dCons (dVar 0) (dNil))))) (dApp fInt (dCons (dBin pIx (dVar 0) (dVar 1)) (dNil))) (dBin pAdd (dBin pAdd (dBin pMul (dC (.int 4001)) (dVar 1)) (dC (.int 71))) (dBin pMod (dApp fInt (dCons (dApp fSum (dCons (dSl (dVar 0) (dNoP) (dPt (dC (.int 1)))) (dNil))) (dNil))) (dC (.int 1000231)))))) ?_ e, ⟨a, b, 0, get_end _ _ [], Int.le_refl _, Int.le_refl _, Fz.app (Fz.app ⟨ns, hz⟩)⟩⟩
    simp only [mkF, env0, dSeq, dSet, dIfS, dRet, dRetN, dExp, dBin, dUn, dVar, dC, dCons, dNil, dApp, dMet, dCall, dCallV, b_ok, b_bad, s_ok, f_rt, f_nx, dTB, dTst, dNotT, dOrT, dAndT, dAnd, dOr, dNot, dChain, dIf, dSkip, dNever, Tg.set, e_le, e_lt, e_ge, e_gt, e_add, e_sub, List.map_cons, List.map_nil, List.length_cons, List.length_nil, List.replicate, List.cons_append, List.nil_append, List.append_nil, List.getElem?_cons_zero, List.getElem?_cons_succ, List.set_cons_zero, List.set_cons_succ, Nat.sub_self, Nat.reduceSub, Nat.reduceAdd, wipeE, le, hl, decide_false, sl, m4, sm, e_int, e_mod _ (show (0 : Int) < 1000231 by decide)]
/-! ### the law -/
theorem eq_lst {s : Sto} {j k : Nat} {xs : List PV} {ds : List PyData} (h : lstAt s j = some xs) (h2 : lstAt s k = some xs) (hd : mapO (dat 59 s) xs = some ds) (hv : PyData.eqv (.list ds) (.list ds) = true) : pNe (.ref j) (.ref k) s = .ok (.bl false) s := by
  have d : ∀ {i : Nat}, lstAt s i = some xs → dat 60 s (.ref i) = some (.list ds) := fun {i} h => by
    show (match lstAt s i with
      | some xs => match mapO (dat 59 s) xs with
        | some ds => some (PyData.list ds)
        | none => none
      | none => none) = _
    rw [h]
    dsimp only
    rw [hd]
  have e : pEqB (.ref j) (.ref k) s = some true := by
    show (match dat 60 s (.ref j) with
      | some d => match dat 60 s (.ref k) with
        | some e => some (PyData.eqv d e)
        | none => none
      | none => none) = _
    rw [d h, d h2]
    dsimp only
    rw [hv]
  unfold pNe
  rw [e]
  rfl
theorem e_addL {s : Sto} {j k : Nat} {xs ys : List PV} (h : s[j]? = some (.lst xs)) (h2 : s[k]? = some (.lst ys)) (hz : szOk (xs.length + ys.length) = true) : pAdd (.ref j) (.ref k) s = .ok (.ref s.length) (s ++ [.lst (xs ++ ys)]) := by
  unfold pAdd
  dsimp only
  rw [h]
  dsimp only
  rw [h2]
  dsimp only
  rw [if_pos hz]
theorem rng_mem {n : Nat} {x : PV} (h : x ∈ rngV 0 1 n) : ∃ i : Nat, x = .int i ∧ i < n := by
  obtain ⟨i, hi⟩ := List.getElem?_of_mem h
  obtain ⟨h1, h2⟩ := rngV_get 1 n 0 i x hi
  exact ⟨i, by rw [h2]; congr 1; omega, h1⟩
theorem turns {j : Nat} (hj : j ≤ 4) {st : Sto} {i1 : Option PV} (h : Fz st) : ∃ i1' st', forV (.nm 1) bo_law_0 noTh (rngV 0 1 j) [some (.ref 0), i1, none] st = .nx [some (.ref 0), i1', none] st' := by
  obtain ⟨env, st', e, ⟨i1', rfl, _⟩⟩ := forV_inv (B := 4) (t := .nm 1) (body := bo_law_0) (th := noTh) (I := fun _ env s => ∃ i1, env = [some (.ref 0), i1, none] ∧ Fz s) (rngV 0 1 j) (fun x hx m env s hm hi => by
    obtain ⟨_, rfl, hz⟩ := hi
    obtain ⟨i, rfl, hi⟩ := rng_mem hx
    obtain ⟨w, s1, e1, w1⟩ := well_ok (i := i) hz (by omega)
    obtain ⟨s2, e2, z2⟩ := right_ok w1 (by omega)
    refine ⟨_, rfl, [some (.ref 0), some (.int i), none], s2, ?_, _, rfl, z2⟩
    simp only [bo_law_0, mkF, env0, dSeq, dSet, dIfS, dRet, dRetN, dExp, dBin, dUn, dVar, dC, dCons, dNil, dApp, dMet, dCall, dCallV, b_ok, b_bad, s_ok, f_rt, f_nx, dTB, dTst, dNotT, dOrT, dAndT, dAnd, dOr, dNot, dChain, dIf, dSkip, dNever, Tg.set, e_le, e_lt, e_ge, e_gt, e_add, e_sub, List.map_cons, List.map_nil, List.length_cons, List.length_nil, List.replicate, List.cons_append, List.nil_append, List.append_nil, List.getElem?_cons_zero, List.getElem?_cons_succ, List.set_cons_zero, List.set_cons_succ, Nat.sub_self, Nat.reduceSub, Nat.reduceAdd, wipeE, Nat.beq, if_true, e1, e2, pTru, Bool.not_true]) 0 [some (.ref 0), i1, none] st (by rw [rngV_len]; omega) ⟨_, rfl, h⟩
  exact ⟨i1', st', e⟩
theorem x_n1 : ∀ s, f_name_cells [.str [97]] s = .ok (.tup [.int 27, .int 0]) s := fun s => nc_ok (x := [97]) rfl s
theorem x_n2 : ∀ s, f_name_cells [.str [122, 97]] s = .ok (.tup [.int 703, .int 0]) s := fun s => nc_ok (x := [122, 97]) rfl s
theorem x_n3 : ∀ s, f_name_cells [.str [97, 98, 99, 100]] s = .ok (.tup [.int 29, .int 85]) s := fun s => nc_ok (x := [97, 98, 99, 100]) rfl s
theorem x_n4 : ∀ s, f_name_cells [.str [122, 122, 122, 122]] s = .ok (.tup [.int 728, .int 728]) s := fun s => nc_ok (x := [122, 122, 122, 122]) rfl s
theorem x_c1 : ∀ s, f_cells_name [.int 27, .int 1] s = .ok .non s := fun s => cn_ok (by decide) (by decide) (by decide) (by decide) s
theorem x_c2 : ∀ s, f_cells_name [.int 0, .int 0] s = .ok .non s := fun s => cn_ok (by decide) (by decide) (by decide) (by decide) s
theorem x_t3 : ∀ (s : Sto), pEq (.tup [.int 997, .int 996, .int 4]) (.tup [.int 997, .int 996, .int 4]) s = .ok (.bl true) s := fun s => by kernel_rfl
theorem ne6 {L5 : List PV} (h5 : L5 = [PV.tup [.int 27, .int 0], .tup [.int 703, .int 0], .tup [.int 29, .int 85], .tup [.int 728, .int 728], .non]) (st : Sto) : pNe (.ref (st.length + 2)) (.ref (st.length + 3)) (st ++ [.lst L5, .lst [.non], .lst (L5 ++ [.non]), .lst (L5 ++ [.non])]) = .ok (.bl false) (st ++ [.lst L5, .lst [.non], .lst (L5 ++ [.non]), .lst (L5 ++ [.non])]) := by
    refine eq_lst (ds := [.tuple [.int 27, .int 0], .tuple [.int 703, .int 0], .tuple [.int 29, .int 85], .tuple [.int 728, .int 728], .none, .none]) (xs := L5 ++ [.non]) (lst_of (get_add st _ 2)) (lst_of (get_add st _ 3)) ?_ (by kernel_rfl)
    rw [h5]
    rfl
theorem sq {A B : DS} {th : Th} {env env2 : Mi.Env} {st st2 : Sto} (h : A th env st = .nx env2 st2) : dSeq A B th env st = B th env2 st2 := by
  unfold dSeq
  rw [h]
theorem rng_ok {n : Nat} {s : Sto} {j : Nat} {k : Nat} {env : Mi.Env} (le : fLen [.ref k] s = .ok (.int n) s) (ej : (if (if (n : Int) < 4 then (n : Int) else 4) > 1 then (if (n : Int) < 4 then (n : Int) else 4) else 1) = (j : Int)) (er : fRng1 [.int j] s = .ok (.vals (rngV 0 1 j)) s) : dRng fRng1 (dCons (dApp fMax (dCons (dC (.int 1)) (dCons (dApp fMin (dCons (dC (.int 4)) (dCons (dApp fLen (dCons (dVar 0) (dNil))) (dNil)))) (dNil)))) (dNil)) noTh (some (.ref k) :: env) s = .ok (.vals (rngV 0 1 j)) s := by
  simp only [mkF, env0, dSeq, dSet, dIfS, dRet, dRetN, dExp, dBin, dUn, dVar, dC, dCons, dNil, dApp, dMet, dCall, dCallV, b_ok, b_bad, s_ok, f_rt, f_nx, dTB, dTst, dNotT, dOrT, dAndT, dAnd, dOr, dNot, dChain, dIf, dSkip, dNever, Tg.set, e_le, e_lt, e_ge, e_gt, e_add, e_sub, List.map_cons, List.map_nil, List.length_cons, List.length_nil, List.replicate, List.cons_append, List.nil_append, List.append_nil, List.getElem?_cons_zero, List.getElem?_cons_succ, List.set_cons_zero, List.set_cons_succ, Nat.sub_self, Nat.reduceSub, Nat.reduceAdd, wipeE, dRng, le, e_min2]
  simp only [mkF, env0, dSeq, dSet, dIfS, dRet, dRetN, dExp, dBin, dUn, dVar, dC, dCons, dNil, dApp, dMet, dCall, dCallV, b_ok, b_bad, s_ok, f_rt, f_nx, dTB, dTst, dNotT, dOrT, dAndT, dAnd, dOr, dNot, dChain, dIf, dSkip, dNever, Tg.set, e_le, e_lt, e_ge, e_gt, e_add, e_sub, List.map_cons, List.map_nil, List.length_cons, List.length_nil, List.replicate, List.cons_append, List.nil_append, List.append_nil, List.getElem?_cons_zero, List.getElem?_cons_succ, List.set_cons_zero, List.set_cons_succ, Nat.sub_self, Nat.reduceSub, Nat.reduceAdd, wipeE, e_max2]
  rw [ej, er]
theorem plain : Plain f_law := by
  intro ns hl hb
  have hz : Fz [.fz (ns.map .int)] := ⟨ns, rfl⟩
  have le := e_lenR (s := [.fz (ns.map .int)]) (k := 0) rfl
  rw [List.length_map] at le
  obtain ⟨j, hj, hj4, ej⟩ : ∃ j : Nat, 1 ≤ j ∧ j ≤ 4 ∧ (if (if (ns.length : Int) < 4 then (ns.length : Int) else 4) > 1 then (if (ns.length : Int) < 4 then (ns.length : Int) else 4) else 1) = (j : Int) := by
    refine ⟨(if (if (ns.length : Int) < 4 then (ns.length : Int) else 4) > 1 then (if (ns.length : Int) < 4 then (ns.length : Int) else 4) else 1).toNat, ?_, ?_, ?_⟩ <;> (repeat' split) <;> omega
  have er : ∀ s, fRng1 [.int j] s = .ok (.vals (rngV 0 1 j)) s := fun s => by rw [e_rng1 s (okI_small (j := j) (by omega) (by omega))]; rfl
  obtain ⟨i1, st, e⟩ := turns hj4 (i1 := none) hz
  obtain ⟨L5, h5⟩ : ∃ L5, L5 = [PV.tup [.int 27, .int 0], .tup [.int 703, .int 0], .tup [.int 29, .int 85], .tup [.int 728, .int 728], .non] := ⟨_, rfl⟩
  have l5 : ∀ s, fLst [PV.tup [.int 27, .int 0], .tup [.int 703, .int 0], .tup [.int 29, .int 85], .tup [.int 728, .int 728], .non] s = .ok (.ref s.length) (s ++ [.lst L5]) := fun s => by rw [h5]; rfl
  have l1 : ∀ s, fLst [PV.non] s = .ok (.ref s.length) (s ++ [.lst [.non]]) := fun s => rfl
  have l6 : ∀ s, fLst [PV.tup [.int 27, .int 0], .tup [.int 703, .int 0], .tup [.int 29, .int 85], .tup [.int 728, .int 728], .non, .non] s = .ok (.ref s.length) (s ++ [.lst (L5 ++ [.non])]) := fun s => by rw [h5]; rfl
  have ad := e_addL (s := st ++ [.lst L5, .lst [.non]]) (j := st.length) (k := st.length + 1) (xs := L5) (ys := [.non]) (get_end st _ _) (get_add st _ 1) (by rw [h5]; rfl)
  have la : ∀ a : SO, (st ++ [a]).length = st.length + 1 := fun a => by simp
  have lb : ∀ a b : SO, (st ++ [a, b]).length = st.length + 2 := fun a b => by simp
  have lc : ∀ a b c : SO, (st ++ [a, b, c]).length = st.length + 3 := fun a b c => by simp
  have ne := ne6 (L5 := L5) h5 st
  refine ⟨st ++ [.lst L5, .lst [.non], .lst (L5 ++ [.non]), .lst (L5 ++ [.non])], ?_⟩
  have t2 : ∀ (a b : PV) (s : Sto), fTup [a, b] s = .ok (.tup [a, b]) s := fun a b s => rfl
  have t4 : ∀ (a b c : PV) (s : Sto), fTup [a, b, c] s = .ok (.tup [a, b, c]) s := fun a b c s => rfl
  have g0 := lst_of (get_end st (.lst L5) [.lst [.non]])
  unfold f_law m_law mkF d_law
  rw [show env0 3 [PV.ref 0] = [some (.ref 0), none, none] from rfl]
  rw [sq (env2 := [some (.ref 0), i1, none]) (st2 := st) (by
    unfold dFor
    rw [rng_ok le ej (er _)]
    simp only [mkF, env0, dSeq, dSet, dIfS, dRet, dRetN, dExp, dBin, dUn, dVar, dC, dCons, dNil, dApp, dMet, dCall, dCallV, b_ok, b_bad, s_ok, f_rt, f_nx, dTB, dTst, dNotT, dOrT, dAndT, dAnd, dOr, dNot, dChain, dIf, dSkip, dNever, Tg.set, e_le, e_lt, e_ge, e_gt, e_add, e_sub, List.map_cons, List.map_nil, List.length_cons, List.length_nil, List.replicate, List.cons_append, List.nil_append, List.append_nil, List.getElem?_cons_zero, List.getElem?_cons_succ, List.set_cons_zero, List.set_cons_succ, Nat.sub_self, Nat.reduceSub, Nat.reduceAdd, wipeE, e])]
  rw [sq (env2 := [some (.ref 0), i1, some (.ref st.length)]) (st2 := st ++ [.lst L5]) (by
    simp only [mkF, env0, dSeq, dSet, dIfS, dRet, dRetN, dExp, dBin, dUn, dVar, dC, dCons, dNil, dApp, dMet, dCall, dCallV, b_ok, b_bad, s_ok, f_rt, f_nx, dTB, dTst, dNotT, dOrT, dAndT, dAnd, dOr, dNot, dChain, dIf, dSkip, dNever, Tg.set, e_le, e_lt, e_ge, e_gt, e_add, e_sub, List.map_cons, List.map_nil, List.length_cons, List.length_nil, List.replicate, List.cons_append, List.nil_append, List.append_nil, List.getElem?_cons_zero, List.getElem?_cons_succ, List.set_cons_zero, List.set_cons_succ, Nat.sub_self, Nat.reduceSub, Nat.reduceAdd, wipeE, Nat.beq, if_true, x_n1, x_n2, x_n3, x_n4, x_c1, l5])]
  rw [sq (env2 := [some (.ref 0), i1, some (.ref (st.length + 2))]) (st2 := st ++ [.lst L5, .lst [.non], .lst (L5 ++ [.non])]) (by
    simp only [mkF, env0, dSeq, dSet, dIfS, dRet, dRetN, dExp, dBin, dUn, dVar, dC, dCons, dNil, dApp, dMet, dCall, dCallV, b_ok, b_bad, s_ok, f_rt, f_nx, dTB, dTst, dNotT, dOrT, dAndT, dAnd, dOr, dNot, dChain, dIf, dSkip, dNever, Tg.set, e_le, e_lt, e_ge, e_gt, e_add, e_sub, List.map_cons, List.map_nil, List.length_cons, List.length_nil, List.replicate, List.cons_append, List.nil_append, List.append_nil, List.getElem?_cons_zero, List.getElem?_cons_succ, List.set_cons_zero, List.set_cons_succ, Nat.sub_self, Nat.reduceSub, Nat.reduceAdd, wipeE, Nat.beq, if_true, x_c2, l1, la, lb, List.append_assoc, ad])]
  rw [sq (env2 := [some (.ref 0), i1, some (.ref (st.length + 2))]) (st2 := st ++ [.lst L5, .lst [.non], .lst (L5 ++ [.non]), .lst (L5 ++ [.non])]) (by
    simp only [mkF, env0, dSeq, dSet, dIfS, dRet, dRetN, dExp, dBin, dUn, dVar, dC, dCons, dNil, dApp, dMet, dCall, dCallV, b_ok, b_bad, s_ok, f_rt, f_nx, dTB, dTst, dNotT, dOrT, dAndT, dAnd, dOr, dNot, dChain, dIf, dSkip, dNever, Tg.set, e_le, e_lt, e_ge, e_gt, e_add, e_sub, List.map_cons, List.map_nil, List.length_cons, List.length_nil, List.replicate, List.cons_append, List.nil_append, List.append_nil, List.getElem?_cons_zero, List.getElem?_cons_succ, List.set_cons_zero, List.set_cons_succ, Nat.sub_self, Nat.reduceSub, Nat.reduceAdd, wipeE, l6, lc, List.append_assoc, t2, ne])]
  simp only [mkF, env0, dSeq, dSet, dIfS, dRet, dRetN, dExp, dBin, dUn, dVar, dC, dCons, dNil, dApp, dMet, dCall, dCallV, b_ok, b_bad, s_ok, f_rt, f_nx, dTB, dTst, dNotT, dOrT, dAndT, dAnd, dOr, dNot, dChain, dIf, dSkip, dNever, Tg.set, e_le, e_lt, e_ge, e_gt, e_add, e_sub, List.map_cons, List.map_nil, List.length_cons, List.length_nil, List.replicate, List.cons_append, List.nil_append, List.append_nil, List.getElem?_cons_zero, List.getElem?_cons_succ, List.set_cons_zero, List.set_cons_succ, Nat.sub_self, Nat.reduceSub, Nat.reduceAdd, wipeE, t4, x_t3]
end K01
end
section
set_option maxRecDepth 100000
set_option maxHeartbeats 0
namespace K01
open PySem PySem.Spec PyProof.Rows L2 Mi
abbrev PR : PySem.Program := PySem.Challenge.pw_stillread_k01_whole_names_and_their_cell
def top (i : Nat) : Stmt := PR.main.body.getD i (.Pass ⟨0, 0, 0, 0⟩)
def dD (i : Nat) (n : Str) : He.DefD := ⟨(n, none), n, n, defArgs (top i), defBody (top i), defScope (top i), [], []⟩
def fn : List He.DefD := [dD 10 "is_whole", dD 11 "is_within", dD 12 "is_cell", dD 13 "is_cells", dD 14 "is_name", dD 15 "require_name", dD 16 "cells_in", dD 17 "name_in", dD 18 "name_cells", dD 19 "cells_name", dD 21 "_law_well", dD 22 "_law_drawn", dD 23 "_law_given", dD 24 "_law_figures", dD 25 "_law_spelled", dD 26 "_law_near", dD 27 "_law_right", dD 28 "law"]
def fa : List He.Fa := [.glo "is_whole", .glo "is_within", .glo "is_cell", .glo "is_cells", .glo "is_name", .glo "require_name", .glo "cells_in", .glo "name_in", .glo "name_cells", .glo "cells_name", .glo "_law_well", .glo "_law_drawn", .glo "_law_given", .glo "_law_figures", .glo "_law_spelled", .glo "_law_near", .glo "_law_right", .glo "law", .free "abs", .free "all", .free "bool", .free "enumerate", .free "int", .free "isinstance", .free "len", .free "list", .free "max", .free "min", .free "range", .free "repr", .free "sorted", .free "str", .free "sum", .free "tuple", .int "FIGURES" (27), .str "LETTERS" "abcdefghijklmnopqrstuvwxyz", .int "MAX_CELL" (996), .int "MAX_NAME" (4), .int "PRIME" (997)]
structure Gs (mg : Str → Option Value) : Prop where
  b_abs : mg "abs" = none
  b_all : mg "all" = none
  b_bool : mg "bool" = none
  b_enumerate : mg "enumerate" = none
  b_int : mg "int" = none
  b_isinstance : mg "isinstance" = none
  b_len : mg "len" = none
  b_list : mg "list" = none
  b_max : mg "max" = none
  b_min : mg "min" = none
  b_range : mg "range" = none
  b_repr : mg "repr" = none
  b_sorted : mg "sorted" = none
  b_str : mg "str" = none
  b_sum : mg "sum" = none
  b_tuple : mg "tuple" = none
  FIGURES : ∃ t, mg "FIGURES" = some (.int (27) t)
  LETTERS : ∃ t, mg "LETTERS" = some (.str "abcdefghijklmnopqrstuvwxyz" t)
  MAX_CELL : ∃ t, mg "MAX_CELL" = some (.int (996) t)
  MAX_NAME : ∃ t, mg "MAX_NAME" = some (.int (4) t)
  PRIME : ∃ t, mg "PRIME" = some (.int (997) t)
structure Wk (P : Program) (w : World) (mg : Str → Option Value) (base : Heap) (W : Wd) : Prop where
  g : Gs mg
  def_ : ∀ (i : Nat) (d : He.DefD), fn[i]? = some d → ∃ fd, FunD W.K d.name d.qual d.params d.body d.scope (d.dvs W.K) (d.kws W.K) (He.fAd W.K d.at_) fd
  x_0 : mg "is_whole" = some (.ref (He.ga W.K "is_whole"))
  x_1 : mg "is_within" = some (.ref (He.ga W.K "is_within"))
  x_2 : mg "is_cell" = some (.ref (He.ga W.K "is_cell"))
  x_3 : mg "is_cells" = some (.ref (He.ga W.K "is_cells"))
  x_4 : mg "is_name" = some (.ref (He.ga W.K "is_name"))
  x_5 : mg "require_name" = some (.ref (He.ga W.K "require_name"))
  x_6 : mg "cells_in" = some (.ref (He.ga W.K "cells_in"))
  x_7 : mg "name_in" = some (.ref (He.ga W.K "name_in"))
  x_8 : mg "name_cells" = some (.ref (He.ga W.K "name_cells"))
  x_9 : mg "cells_name" = some (.ref (He.ga W.K "cells_name"))
  x_10 : mg "_law_well" = some (.ref (He.ga W.K "_law_well"))
  x_11 : mg "_law_drawn" = some (.ref (He.ga W.K "_law_drawn"))
  x_12 : mg "_law_given" = some (.ref (He.ga W.K "_law_given"))
  x_13 : mg "_law_figures" = some (.ref (He.ga W.K "_law_figures"))
  x_14 : mg "_law_spelled" = some (.ref (He.ga W.K "_law_spelled"))
  x_15 : mg "_law_near" = some (.ref (He.ga W.K "_law_near"))
  x_16 : mg "_law_right" = some (.ref (He.ga W.K "_law_right"))
  x_17 : mg "law" = some (.ref (He.ga W.K "law"))
abbrev sc_0 : Scope := defScope (top 10)
abbrev sc_1 : Scope := defScope (top 11)
abbrev sc_2 : Scope := defScope (top 12)
abbrev sc_3 : Scope := defScope (top 13)
abbrev sc_4 : Scope := defScope (top 14)
abbrev sc_5 : Scope := defScope (top 15)
abbrev sc_6 : Scope := defScope (top 16)
abbrev sc_7 : Scope := defScope (top 17)
abbrev sc_8 : Scope := defScope (top 18)
abbrev sc_9 : Scope := defScope (top 19)
abbrev sc_10 : Scope := defScope (top 21)
abbrev sc_11 : Scope := defScope (top 22)
abbrev sc_12 : Scope := defScope (top 23)
abbrev sc_13 : Scope := defScope (top 24)
abbrev sc_14 : Scope := defScope (top 25)
abbrev sc_15 : Scope := defScope (top 26)
abbrev sc_16 : Scope := defScope (top 27)
abbrev sc_17 : Scope := defScope (top 28)
theorem bt_abs : bootBuiltins "abs" = some (.builtin "abs") := by decide +kernel
theorem nn_abs : ("abs" : Str) ≠ "__name__" := by decide +kernel
theorem bt_all : bootBuiltins "all" = some (.builtin "all") := by decide +kernel
theorem nn_all : ("all" : Str) ≠ "__name__" := by decide +kernel
theorem bt_bool : bootBuiltins "bool" = some (.type "bool") := by decide +kernel
theorem nn_bool : ("bool" : Str) ≠ "__name__" := by decide +kernel
theorem bt_enumerate : bootBuiltins "enumerate" = some (.type "enumerate") := by decide +kernel
theorem nn_enumerate : ("enumerate" : Str) ≠ "__name__" := by decide +kernel
theorem bt_int : bootBuiltins "int" = some (.type "int") := by decide +kernel
theorem nn_int : ("int" : Str) ≠ "__name__" := by decide +kernel
theorem bt_isinstance : bootBuiltins "isinstance" = some (.builtin "isinstance") := by decide +kernel
theorem nn_isinstance : ("isinstance" : Str) ≠ "__name__" := by decide +kernel
theorem bt_len : bootBuiltins "len" = some (.builtin "len") := by decide +kernel
theorem nn_len : ("len" : Str) ≠ "__name__" := by decide +kernel
theorem bt_list : bootBuiltins "list" = some (.type "list") := by decide +kernel
theorem nn_list : ("list" : Str) ≠ "__name__" := by decide +kernel
theorem bt_max : bootBuiltins "max" = some (.builtin "max") := by decide +kernel
theorem nn_max : ("max" : Str) ≠ "__name__" := by decide +kernel
theorem bt_min : bootBuiltins "min" = some (.builtin "min") := by decide +kernel
theorem nn_min : ("min" : Str) ≠ "__name__" := by decide +kernel
theorem bt_range : bootBuiltins "range" = some (.type "range") := by decide +kernel
theorem nn_range : ("range" : Str) ≠ "__name__" := by decide +kernel
theorem bt_repr : bootBuiltins "repr" = some (.builtin "repr") := by decide +kernel
theorem nn_repr : ("repr" : Str) ≠ "__name__" := by decide +kernel
theorem bt_sorted : bootBuiltins "sorted" = some (.builtin "sorted") := by decide +kernel
theorem nn_sorted : ("sorted" : Str) ≠ "__name__" := by decide +kernel
theorem bt_str : bootBuiltins "str" = some (.type "str") := by decide +kernel
theorem nn_str : ("str" : Str) ≠ "__name__" := by decide +kernel
theorem bt_sum : bootBuiltins "sum" = some (.builtin "sum") := by decide +kernel
theorem nn_sum : ("sum" : Str) ≠ "__name__" := by decide +kernel
theorem bt_tuple : bootBuiltins "tuple" = some (.type "tuple") := by decide +kernel
theorem nn_tuple : ("tuple" : Str) ≠ "__name__" := by decide +kernel
theorem lk_sc_0_value : sc_0.names.lookup ("value" : Str) = some (NameKind.local : NameKind) := by decide +kernel
theorem lk_sc_0_isinstance : sc_0.names.lookup ("isinstance" : Str) = some (NameKind.globalImplicit : NameKind) := by decide +kernel
theorem lk_sc_0_int : sc_0.names.lookup ("int" : Str) = some (NameKind.globalImplicit : NameKind) := by decide +kernel
theorem lk_sc_0_bool : sc_0.names.lookup ("bool" : Str) = some (NameKind.globalImplicit : NameKind) := by decide +kernel
theorem lk_sc_1_value : sc_1.names.lookup ("value" : Str) = some (NameKind.local : NameKind) := by decide +kernel
theorem lk_sc_1_is_whole : sc_1.names.lookup ("is_whole" : Str) = some (NameKind.globalImplicit : NameKind) := by decide +kernel
theorem lk_sc_1_least : sc_1.names.lookup ("least" : Str) = some (NameKind.local : NameKind) := by decide +kernel
theorem lk_sc_1_greatest : sc_1.names.lookup ("greatest" : Str) = some (NameKind.local : NameKind) := by decide +kernel
theorem lk_sc_2_MAX_CELL : sc_2.names.lookup ("MAX_CELL" : Str) = some (NameKind.globalImplicit : NameKind) := by decide +kernel
theorem lk_sc_2_value : sc_2.names.lookup ("value" : Str) = some (NameKind.local : NameKind) := by decide +kernel
theorem lk_sc_2_is_within : sc_2.names.lookup ("is_within" : Str) = some (NameKind.globalImplicit : NameKind) := by decide +kernel
theorem lk_sc_3_value : sc_3.names.lookup ("value" : Str) = some (NameKind.local : NameKind) := by decide +kernel
theorem lk_sc_3_isinstance : sc_3.names.lookup ("isinstance" : Str) = some (NameKind.globalImplicit : NameKind) := by decide +kernel
theorem lk_sc_3_tuple : sc_3.names.lookup ("tuple" : Str) = some (NameKind.globalImplicit : NameKind) := by decide +kernel
theorem lk_sc_3_all : sc_3.names.lookup ("all" : Str) = some (NameKind.globalImplicit : NameKind) := by decide +kernel
theorem lk_sc_4_value : sc_4.names.lookup ("value" : Str) = some (NameKind.local : NameKind) := by decide +kernel
theorem lk_sc_4_all : sc_4.names.lookup ("all" : Str) = some (NameKind.globalImplicit : NameKind) := by decide +kernel
theorem lk_sc_4_isinstance : sc_4.names.lookup ("isinstance" : Str) = some (NameKind.globalImplicit : NameKind) := by decide +kernel
theorem lk_sc_4_str : sc_4.names.lookup ("str" : Str) = some (NameKind.globalImplicit : NameKind) := by decide +kernel
theorem lk_sc_4_len : sc_4.names.lookup ("len" : Str) = some (NameKind.globalImplicit : NameKind) := by decide +kernel
theorem lk_sc_4_MAX_NAME : sc_4.names.lookup ("MAX_NAME" : Str) = some (NameKind.globalImplicit : NameKind) := by decide +kernel
theorem lk_sc_5_value : sc_5.names.lookup ("value" : Str) = some (NameKind.local : NameKind) := by decide +kernel
theorem lk_sc_5_is_name : sc_5.names.lookup ("is_name" : Str) = some (NameKind.globalImplicit : NameKind) := by decide +kernel
theorem lk_sc_6_FIGURES : sc_6.names.lookup ("FIGURES" : Str) = some (NameKind.globalImplicit : NameKind) := by decide +kernel
theorem lk_sc_6_figures : sc_6.names.lookup ("figures" : Str) = some (NameKind.local : NameKind) := by decide +kernel
theorem lk_sc_6_MAX_NAME : sc_6.names.lookup ("MAX_NAME" : Str) = some (NameKind.globalImplicit : NameKind) := by decide +kernel
theorem lk_sc_6_len : sc_6.names.lookup ("len" : Str) = some (NameKind.globalImplicit : NameKind) := by decide +kernel
theorem lk_sc_6_name : sc_6.names.lookup ("name" : Str) = some (NameKind.local : NameKind) := by decide +kernel
theorem lk_sc_7_name : sc_7.names.lookup ("name" : Str) = some (NameKind.local : NameKind) := by decide +kernel
theorem lk_sc_7_cells_in : sc_7.names.lookup ("cells_in" : Str) = some (NameKind.globalImplicit : NameKind) := by decide +kernel
theorem lk_sc_7_second : sc_7.names.lookup ("second" : Str) = some (NameKind.local : NameKind) := by decide +kernel
theorem lk_sc_7_first : sc_7.names.lookup ("first" : Str) = some (NameKind.local : NameKind) := by decide +kernel
theorem lk_sc_7_figures : sc_7.names.lookup ("figures" : Str) = some (NameKind.local : NameKind) := by decide +kernel
theorem lk_sc_7_FIGURES : sc_7.names.lookup ("FIGURES" : Str) = some (NameKind.globalImplicit : NameKind) := by decide +kernel
theorem lk_sc_7_max : sc_7.names.lookup ("max" : Str) = some (NameKind.globalImplicit : NameKind) := by decide +kernel
theorem lk_sc_8_name : sc_8.names.lookup ("name" : Str) = some (NameKind.local : NameKind) := by decide +kernel
theorem lk_sc_8_cells_in : sc_8.names.lookup ("cells_in" : Str) = some (NameKind.globalImplicit : NameKind) := by decide +kernel
theorem lk_sc_8_require_name : sc_8.names.lookup ("require_name" : Str) = some (NameKind.globalImplicit : NameKind) := by decide +kernel
theorem lk_sc_9_second : sc_9.names.lookup ("second" : Str) = some (NameKind.local : NameKind) := by decide +kernel
theorem lk_sc_9_first : sc_9.names.lookup ("first" : Str) = some (NameKind.local : NameKind) := by decide +kernel
theorem lk_sc_9_name_in : sc_9.names.lookup ("name_in" : Str) = some (NameKind.globalImplicit : NameKind) := by decide +kernel
theorem lk_sc_9_value : sc_9.names.lookup ("value" : Str) = some (NameKind.local : NameKind) := by decide +kernel
theorem lk_sc_9_is_cell : sc_9.names.lookup ("is_cell" : Str) = some (NameKind.globalImplicit : NameKind) := by decide +kernel
theorem lk_sc_10__law_mixed : sc_10.names.lookup ("_law_mixed" : Str) = some (NameKind.local : NameKind) := by decide +kernel
theorem lk_sc_10__law_great : sc_10.names.lookup ("_law_great" : Str) = some (NameKind.local : NameKind) := by decide +kernel
theorem lk_sc_10_max : sc_10.names.lookup ("max" : Str) = some (NameKind.globalImplicit : NameKind) := by decide +kernel
theorem lk_sc_10__law_spot : sc_10.names.lookup ("_law_spot" : Str) = some (NameKind.local : NameKind) := by decide +kernel
theorem lk_sc_10__law_cell : sc_10.names.lookup ("_law_cell" : Str) = some (NameKind.local : NameKind) := by decide +kernel
theorem lk_sc_10_int : sc_10.names.lookup ("int" : Str) = some (NameKind.globalImplicit : NameKind) := by decide +kernel
theorem lk_sc_10_abs : sc_10.names.lookup ("abs" : Str) = some (NameKind.globalImplicit : NameKind) := by decide +kernel
theorem lk_sc_10__law_script : sc_10.names.lookup ("_law_script" : Str) = some (NameKind.local : NameKind) := by decide +kernel
theorem lk_sc_10_len : sc_10.names.lookup ("len" : Str) = some (NameKind.globalImplicit : NameKind) := by decide +kernel
theorem lk_sc_10_sum : sc_10.names.lookup ("sum" : Str) = some (NameKind.globalImplicit : NameKind) := by decide +kernel
theorem lk_sc_11__law_two : sc_11.names.lookup ("_law_two" : Str) = some (NameKind.local : NameKind) := by decide +kernel
theorem lk_sc_11_int : sc_11.names.lookup ("int" : Str) = some (NameKind.globalImplicit : NameKind) := by decide +kernel
theorem lk_sc_11__law_many : sc_11.names.lookup ("_law_many" : Str) = some (NameKind.local : NameKind) := by decide +kernel
theorem lk_sc_11__law_one : sc_11.names.lookup ("_law_one" : Str) = some (NameKind.local : NameKind) := by decide +kernel
theorem lk_sc_11__law_well_here : sc_11.names.lookup ("_law_well_here" : Str) = some (NameKind.local : NameKind) := by decide +kernel
theorem lk_sc_11__law_found : sc_11.names.lookup ("_law_found" : Str) = some (NameKind.local : NameKind) := by decide +kernel
theorem lk_sc_12__law_items : sc_12.names.lookup ("_law_items" : Str) = some (NameKind.local : NameKind) := by decide +kernel
theorem lk_sc_12_len : sc_12.names.lookup ("len" : Str) = some (NameKind.globalImplicit : NameKind) := by decide +kernel
theorem lk_sc_12__law_well_here : sc_12.names.lookup ("_law_well_here" : Str) = some (NameKind.local : NameKind) := by decide +kernel
theorem lk_sc_12__law_drawn : sc_12.names.lookup ("_law_drawn" : Str) = some (NameKind.globalImplicit : NameKind) := by decide +kernel
theorem lk_sc_13__law_found : sc_13.names.lookup ("_law_found" : Str) = some (NameKind.local : NameKind) := by decide +kernel
theorem lk_sc_13_tuple : sc_13.names.lookup ("tuple" : Str) = some (NameKind.globalImplicit : NameKind) := by decide +kernel
theorem lk_sc_13__law_name : sc_13.names.lookup ("_law_name" : Str) = some (NameKind.local : NameKind) := by decide +kernel
theorem lk_sc_13_enumerate : sc_13.names.lookup ("enumerate" : Str) = some (NameKind.globalImplicit : NameKind) := by decide +kernel
theorem lk_sc_13__law_at : sc_13.names.lookup ("_law_at" : Str) = some (NameKind.local : NameKind) := by decide +kernel
theorem lk_sc_13__law_letter : sc_13.names.lookup ("_law_letter" : Str) = some (NameKind.local : NameKind) := by decide +kernel
theorem lk_sc_14__law_name : sc_14.names.lookup ("_law_name" : Str) = some (NameKind.local : NameKind) := by decide +kernel
theorem lk_sc_14__law_letters : sc_14.names.lookup ("_law_letters" : Str) = some (NameKind.local : NameKind) := by decide +kernel
theorem lk_sc_14__law_first : sc_14.names.lookup ("_law_first" : Str) = some (NameKind.local : NameKind) := by decide +kernel
theorem lk_sc_14__law_second : sc_14.names.lookup ("_law_second" : Str) = some (NameKind.local : NameKind) := by decide +kernel
theorem lk_sc_15__law_row : sc_15.names.lookup ("_law_row" : Str) = some (NameKind.local : NameKind) := by decide +kernel
theorem lk_sc_15__law_cell : sc_15.names.lookup ("_law_cell" : Str) = some (NameKind.local : NameKind) := by decide +kernel
theorem lk_sc_15__law_name : sc_15.names.lookup ("_law_name" : Str) = some (NameKind.local : NameKind) := by decide +kernel
theorem lk_sc_15__law_well_here : sc_15.names.lookup ("_law_well_here" : Str) = some (NameKind.local : NameKind) := by decide +kernel
theorem lk_sc_15__law_given : sc_15.names.lookup ("_law_given" : Str) = some (NameKind.globalImplicit : NameKind) := by decide +kernel
theorem lk_sc_16__law_told : sc_16.names.lookup ("_law_told" : Str) = some (NameKind.local : NameKind) := by decide +kernel
theorem lk_sc_16__law_row : sc_16.names.lookup ("_law_row" : Str) = some (NameKind.local : NameKind) := by decide +kernel
theorem lk_sc_16__law_cell : sc_16.names.lookup ("_law_cell" : Str) = some (NameKind.local : NameKind) := by decide +kernel
theorem lk_sc_16_repr : sc_16.names.lookup ("repr" : Str) = some (NameKind.globalImplicit : NameKind) := by decide +kernel
theorem lk_sc_16__law_name : sc_16.names.lookup ("_law_name" : Str) = some (NameKind.local : NameKind) := by decide +kernel
theorem lk_sc_16_is_cells : sc_16.names.lookup ("is_cells" : Str) = some (NameKind.globalImplicit : NameKind) := by decide +kernel
theorem lk_sc_16_is_cell : sc_16.names.lookup ("is_cell" : Str) = some (NameKind.globalImplicit : NameKind) := by decide +kernel
theorem lk_sc_16_is_name : sc_16.names.lookup ("is_name" : Str) = some (NameKind.globalImplicit : NameKind) := by decide +kernel
theorem lk_sc_16__law_well_here : sc_16.names.lookup ("_law_well_here" : Str) = some (NameKind.cell : NameKind) := by decide +kernel
theorem lk_sc_16__law_near : sc_16.names.lookup ("_law_near" : Str) = some (NameKind.globalImplicit : NameKind) := by decide +kernel
theorem lk_sc_16_range : sc_16.names.lookup ("range" : Str) = some (NameKind.globalImplicit : NameKind) := by decide +kernel
theorem lk_sc_16__law_turn : sc_16.names.lookup ("_law_turn" : Str) = some (NameKind.local : NameKind) := by decide +kernel
theorem lk_sc_16__law_second : sc_16.names.lookup ("_law_second" : Str) = some (NameKind.local : NameKind) := by decide +kernel
theorem lk_sc_16__law_first : sc_16.names.lookup ("_law_first" : Str) = some (NameKind.local : NameKind) := by decide +kernel
theorem lk_sc_16_cells_name : sc_16.names.lookup ("cells_name" : Str) = some (NameKind.globalImplicit : NameKind) := by decide +kernel
theorem lk_sc_16__law_spelled : sc_16.names.lookup ("_law_spelled" : Str) = some (NameKind.globalImplicit : NameKind) := by decide +kernel
theorem lk_sc_16__law_drawn : sc_16.names.lookup ("_law_drawn" : Str) = some (NameKind.globalImplicit : NameKind) := by decide +kernel
theorem lk_sc_16__law_given : sc_16.names.lookup ("_law_given" : Str) = some (NameKind.globalImplicit : NameKind) := by decide +kernel
theorem lk_sc_16__law_names : sc_16.names.lookup ("_law_names" : Str) = some (NameKind.local : NameKind) := by decide +kernel
theorem lk_sc_16_sorted : sc_16.names.lookup ("sorted" : Str) = some (NameKind.globalImplicit : NameKind) := by decide +kernel
theorem lk_sc_16_name_cells : sc_16.names.lookup ("name_cells" : Str) = some (NameKind.globalImplicit : NameKind) := by decide +kernel
theorem lk_sc_16__law_figures : sc_16.names.lookup ("_law_figures" : Str) = some (NameKind.globalImplicit : NameKind) := by decide +kernel
theorem lk_sc_16__law_letters : sc_16.names.lookup ("_law_letters" : Str) = some (NameKind.local : NameKind) := by decide +kernel
theorem lk_sc_17_MAX_NAME : sc_17.names.lookup ("MAX_NAME" : Str) = some (NameKind.globalImplicit : NameKind) := by decide +kernel
theorem lk_sc_17_MAX_CELL : sc_17.names.lookup ("MAX_CELL" : Str) = some (NameKind.globalImplicit : NameKind) := by decide +kernel
theorem lk_sc_17_PRIME : sc_17.names.lookup ("PRIME" : Str) = some (NameKind.globalImplicit : NameKind) := by decide +kernel
theorem lk_sc_17__law_told : sc_17.names.lookup ("_law_told" : Str) = some (NameKind.local : NameKind) := by decide +kernel
theorem lk_sc_17_cells_name : sc_17.names.lookup ("cells_name" : Str) = some (NameKind.globalImplicit : NameKind) := by decide +kernel
theorem lk_sc_17_name_cells : sc_17.names.lookup ("name_cells" : Str) = some (NameKind.globalImplicit : NameKind) := by decide +kernel
theorem lk_sc_17__law_script : sc_17.names.lookup ("_law_script" : Str) = some (NameKind.local : NameKind) := by decide +kernel
theorem lk_sc_17_len : sc_17.names.lookup ("len" : Str) = some (NameKind.globalImplicit : NameKind) := by decide +kernel
theorem lk_sc_17_min : sc_17.names.lookup ("min" : Str) = some (NameKind.globalImplicit : NameKind) := by decide +kernel
theorem lk_sc_17_max : sc_17.names.lookup ("max" : Str) = some (NameKind.globalImplicit : NameKind) := by decide +kernel
theorem lk_sc_17_range : sc_17.names.lookup ("range" : Str) = some (NameKind.globalImplicit : NameKind) := by decide +kernel
theorem lk_sc_17__law_spot : sc_17.names.lookup ("_law_spot" : Str) = some (NameKind.local : NameKind) := by decide +kernel
theorem lk_sc_17__law_well : sc_17.names.lookup ("_law_well" : Str) = some (NameKind.globalImplicit : NameKind) := by decide +kernel
theorem lk_sc_17__law_right : sc_17.names.lookup ("_law_right" : Str) = some (NameKind.globalImplicit : NameKind) := by decide +kernel
theorem nd_FIGURES : (("FIGURES" : Str) == ("__debug__" : Str)) = false := by decide +kernel
theorem nc_FIGURES : (("FIGURES" : Str) == ("__classdict__" : Str)) = false := by decide +kernel
theorem nd_LETTERS : (("LETTERS" : Str) == ("__debug__" : Str)) = false := by decide +kernel
theorem nc_LETTERS : (("LETTERS" : Str) == ("__classdict__" : Str)) = false := by decide +kernel
theorem nd_MAX_CELL : (("MAX_CELL" : Str) == ("__debug__" : Str)) = false := by decide +kernel
theorem nc_MAX_CELL : (("MAX_CELL" : Str) == ("__classdict__" : Str)) = false := by decide +kernel
theorem nd_MAX_NAME : (("MAX_NAME" : Str) == ("__debug__" : Str)) = false := by decide +kernel
theorem nc_MAX_NAME : (("MAX_NAME" : Str) == ("__classdict__" : Str)) = false := by decide +kernel
theorem nd_PRIME : (("PRIME" : Str) == ("__debug__" : Str)) = false := by decide +kernel
theorem nc_PRIME : (("PRIME" : Str) == ("__classdict__" : Str)) = false := by decide +kernel
theorem nd__law_at : (("_law_at" : Str) == ("__debug__" : Str)) = false := by decide +kernel
theorem nc__law_at : (("_law_at" : Str) == ("__classdict__" : Str)) = false := by decide +kernel
theorem nd__law_cell : (("_law_cell" : Str) == ("__debug__" : Str)) = false := by decide +kernel
theorem nc__law_cell : (("_law_cell" : Str) == ("__classdict__" : Str)) = false := by decide +kernel
theorem nd__law_drawn : (("_law_drawn" : Str) == ("__debug__" : Str)) = false := by decide +kernel
theorem nc__law_drawn : (("_law_drawn" : Str) == ("__classdict__" : Str)) = false := by decide +kernel
theorem nd__law_figures : (("_law_figures" : Str) == ("__debug__" : Str)) = false := by decide +kernel
theorem nc__law_figures : (("_law_figures" : Str) == ("__classdict__" : Str)) = false := by decide +kernel
theorem nd__law_first : (("_law_first" : Str) == ("__debug__" : Str)) = false := by decide +kernel
theorem nc__law_first : (("_law_first" : Str) == ("__classdict__" : Str)) = false := by decide +kernel
theorem nd__law_found : (("_law_found" : Str) == ("__debug__" : Str)) = false := by decide +kernel
theorem nc__law_found : (("_law_found" : Str) == ("__classdict__" : Str)) = false := by decide +kernel
theorem nd__law_given : (("_law_given" : Str) == ("__debug__" : Str)) = false := by decide +kernel
theorem nc__law_given : (("_law_given" : Str) == ("__classdict__" : Str)) = false := by decide +kernel
theorem nd__law_great : (("_law_great" : Str) == ("__debug__" : Str)) = false := by decide +kernel
theorem nc__law_great : (("_law_great" : Str) == ("__classdict__" : Str)) = false := by decide +kernel
theorem nd__law_items : (("_law_items" : Str) == ("__debug__" : Str)) = false := by decide +kernel
theorem nc__law_items : (("_law_items" : Str) == ("__classdict__" : Str)) = false := by decide +kernel
theorem nd__law_letter : (("_law_letter" : Str) == ("__debug__" : Str)) = false := by decide +kernel
theorem nc__law_letter : (("_law_letter" : Str) == ("__classdict__" : Str)) = false := by decide +kernel
theorem nd__law_letters : (("_law_letters" : Str) == ("__debug__" : Str)) = false := by decide +kernel
theorem nc__law_letters : (("_law_letters" : Str) == ("__classdict__" : Str)) = false := by decide +kernel
theorem nd__law_many : (("_law_many" : Str) == ("__debug__" : Str)) = false := by decide +kernel
theorem nc__law_many : (("_law_many" : Str) == ("__classdict__" : Str)) = false := by decide +kernel
theorem nd__law_mixed : (("_law_mixed" : Str) == ("__debug__" : Str)) = false := by decide +kernel
theorem nc__law_mixed : (("_law_mixed" : Str) == ("__classdict__" : Str)) = false := by decide +kernel
theorem nd__law_name : (("_law_name" : Str) == ("__debug__" : Str)) = false := by decide +kernel
theorem nc__law_name : (("_law_name" : Str) == ("__classdict__" : Str)) = false := by decide +kernel
theorem nd__law_names : (("_law_names" : Str) == ("__debug__" : Str)) = false := by decide +kernel
theorem nc__law_names : (("_law_names" : Str) == ("__classdict__" : Str)) = false := by decide +kernel
theorem nd__law_near : (("_law_near" : Str) == ("__debug__" : Str)) = false := by decide +kernel
theorem nc__law_near : (("_law_near" : Str) == ("__classdict__" : Str)) = false := by decide +kernel
theorem nd__law_one : (("_law_one" : Str) == ("__debug__" : Str)) = false := by decide +kernel
theorem nc__law_one : (("_law_one" : Str) == ("__classdict__" : Str)) = false := by decide +kernel
theorem nd__law_pair : (("_law_pair" : Str) == ("__debug__" : Str)) = false := by decide +kernel
theorem nc__law_pair : (("_law_pair" : Str) == ("__classdict__" : Str)) = false := by decide +kernel
theorem nd__law_right : (("_law_right" : Str) == ("__debug__" : Str)) = false := by decide +kernel
theorem nc__law_right : (("_law_right" : Str) == ("__classdict__" : Str)) = false := by decide +kernel
theorem nd__law_row : (("_law_row" : Str) == ("__debug__" : Str)) = false := by decide +kernel
theorem nc__law_row : (("_law_row" : Str) == ("__classdict__" : Str)) = false := by decide +kernel
theorem nd__law_script : (("_law_script" : Str) == ("__debug__" : Str)) = false := by decide +kernel
theorem nc__law_script : (("_law_script" : Str) == ("__classdict__" : Str)) = false := by decide +kernel
theorem nd__law_second : (("_law_second" : Str) == ("__debug__" : Str)) = false := by decide +kernel
theorem nc__law_second : (("_law_second" : Str) == ("__classdict__" : Str)) = false := by decide +kernel
theorem nd__law_spelled : (("_law_spelled" : Str) == ("__debug__" : Str)) = false := by decide +kernel
theorem nc__law_spelled : (("_law_spelled" : Str) == ("__classdict__" : Str)) = false := by decide +kernel
theorem nd__law_spot : (("_law_spot" : Str) == ("__debug__" : Str)) = false := by decide +kernel
theorem nc__law_spot : (("_law_spot" : Str) == ("__classdict__" : Str)) = false := by decide +kernel
theorem nd__law_told : (("_law_told" : Str) == ("__debug__" : Str)) = false := by decide +kernel
theorem nc__law_told : (("_law_told" : Str) == ("__classdict__" : Str)) = false := by decide +kernel
theorem nd__law_two : (("_law_two" : Str) == ("__debug__" : Str)) = false := by decide +kernel
theorem nc__law_two : (("_law_two" : Str) == ("__classdict__" : Str)) = false := by decide +kernel
theorem nd__law_well : (("_law_well" : Str) == ("__debug__" : Str)) = false := by decide +kernel
theorem nc__law_well : (("_law_well" : Str) == ("__classdict__" : Str)) = false := by decide +kernel
theorem nd__law_well_here : (("_law_well_here" : Str) == ("__debug__" : Str)) = false := by decide +kernel
theorem nc__law_well_here : (("_law_well_here" : Str) == ("__classdict__" : Str)) = false := by decide +kernel
theorem nd_abs : (("abs" : Str) == ("__debug__" : Str)) = false := by decide +kernel
theorem nc_abs : (("abs" : Str) == ("__classdict__" : Str)) = false := by decide +kernel
theorem nd_all : (("all" : Str) == ("__debug__" : Str)) = false := by decide +kernel
theorem nc_all : (("all" : Str) == ("__classdict__" : Str)) = false := by decide +kernel
theorem nd_bool : (("bool" : Str) == ("__debug__" : Str)) = false := by decide +kernel
theorem nc_bool : (("bool" : Str) == ("__classdict__" : Str)) = false := by decide +kernel
theorem nd_cell : (("cell" : Str) == ("__debug__" : Str)) = false := by decide +kernel
theorem nc_cell : (("cell" : Str) == ("__classdict__" : Str)) = false := by decide +kernel
theorem nd_cells_in : (("cells_in" : Str) == ("__debug__" : Str)) = false := by decide +kernel
theorem nc_cells_in : (("cells_in" : Str) == ("__classdict__" : Str)) = false := by decide +kernel
theorem nd_cells_name : (("cells_name" : Str) == ("__debug__" : Str)) = false := by decide +kernel
theorem nc_cells_name : (("cells_name" : Str) == ("__classdict__" : Str)) = false := by decide +kernel
theorem nd_figure : (("figure" : Str) == ("__debug__" : Str)) = false := by decide +kernel
theorem nc_figure : (("figure" : Str) == ("__classdict__" : Str)) = false := by decide +kernel
theorem nd_figures : (("figures" : Str) == ("__debug__" : Str)) = false := by decide +kernel
theorem nc_figures : (("figures" : Str) == ("__classdict__" : Str)) = false := by decide +kernel
theorem nd_first : (("first" : Str) == ("__debug__" : Str)) = false := by decide +kernel
theorem nc_first : (("first" : Str) == ("__classdict__" : Str)) = false := by decide +kernel
theorem nd_greatest : (("greatest" : Str) == ("__debug__" : Str)) = false := by decide +kernel
theorem nc_greatest : (("greatest" : Str) == ("__classdict__" : Str)) = false := by decide +kernel
theorem nd_int : (("int" : Str) == ("__debug__" : Str)) = false := by decide +kernel
theorem nc_int : (("int" : Str) == ("__classdict__" : Str)) = false := by decide +kernel
theorem nd_is_cell : (("is_cell" : Str) == ("__debug__" : Str)) = false := by decide +kernel
theorem nc_is_cell : (("is_cell" : Str) == ("__classdict__" : Str)) = false := by decide +kernel
theorem nd_is_cells : (("is_cells" : Str) == ("__debug__" : Str)) = false := by decide +kernel
theorem nc_is_cells : (("is_cells" : Str) == ("__classdict__" : Str)) = false := by decide +kernel
theorem nd_is_name : (("is_name" : Str) == ("__debug__" : Str)) = false := by decide +kernel
theorem nc_is_name : (("is_name" : Str) == ("__classdict__" : Str)) = false := by decide +kernel
theorem nd_is_whole : (("is_whole" : Str) == ("__debug__" : Str)) = false := by decide +kernel
theorem nc_is_whole : (("is_whole" : Str) == ("__classdict__" : Str)) = false := by decide +kernel
theorem nd_is_within : (("is_within" : Str) == ("__debug__" : Str)) = false := by decide +kernel
theorem nc_is_within : (("is_within" : Str) == ("__classdict__" : Str)) = false := by decide +kernel
theorem nd_least : (("least" : Str) == ("__debug__" : Str)) = false := by decide +kernel
theorem nc_least : (("least" : Str) == ("__classdict__" : Str)) = false := by decide +kernel
theorem nd_len : (("len" : Str) == ("__debug__" : Str)) = false := by decide +kernel
theorem nc_len : (("len" : Str) == ("__classdict__" : Str)) = false := by decide +kernel
theorem nd_list : (("list" : Str) == ("__debug__" : Str)) = false := by decide +kernel
theorem nc_list : (("list" : Str) == ("__classdict__" : Str)) = false := by decide +kernel
theorem nd_max : (("max" : Str) == ("__debug__" : Str)) = false := by decide +kernel
theorem nc_max : (("max" : Str) == ("__classdict__" : Str)) = false := by decide +kernel
theorem nd_min : (("min" : Str) == ("__debug__" : Str)) = false := by decide +kernel
theorem nc_min : (("min" : Str) == ("__classdict__" : Str)) = false := by decide +kernel
theorem nd_name : (("name" : Str) == ("__debug__" : Str)) = false := by decide +kernel
theorem nc_name : (("name" : Str) == ("__classdict__" : Str)) = false := by decide +kernel
theorem nd_name_cells : (("name_cells" : Str) == ("__debug__" : Str)) = false := by decide +kernel
theorem nc_name_cells : (("name_cells" : Str) == ("__classdict__" : Str)) = false := by decide +kernel
theorem nd_name_in : (("name_in" : Str) == ("__debug__" : Str)) = false := by decide +kernel
theorem nc_name_in : (("name_in" : Str) == ("__classdict__" : Str)) = false := by decide +kernel
theorem nd_repr : (("repr" : Str) == ("__debug__" : Str)) = false := by decide +kernel
theorem nc_repr : (("repr" : Str) == ("__classdict__" : Str)) = false := by decide +kernel
theorem nd_require_name : (("require_name" : Str) == ("__debug__" : Str)) = false := by decide +kernel
theorem nc_require_name : (("require_name" : Str) == ("__classdict__" : Str)) = false := by decide +kernel
theorem nd_second : (("second" : Str) == ("__debug__" : Str)) = false := by decide +kernel
theorem nc_second : (("second" : Str) == ("__classdict__" : Str)) = false := by decide +kernel
theorem nd_sign : (("sign" : Str) == ("__debug__" : Str)) = false := by decide +kernel
theorem nc_sign : (("sign" : Str) == ("__classdict__" : Str)) = false := by decide +kernel
theorem nd_sorted : (("sorted" : Str) == ("__debug__" : Str)) = false := by decide +kernel
theorem nc_sorted : (("sorted" : Str) == ("__classdict__" : Str)) = false := by decide +kernel
theorem nd_str : (("str" : Str) == ("__debug__" : Str)) = false := by decide +kernel
theorem nc_str : (("str" : Str) == ("__classdict__" : Str)) = false := by decide +kernel
theorem nd_sum : (("sum" : Str) == ("__debug__" : Str)) = false := by decide +kernel
theorem nc_sum : (("sum" : Str) == ("__classdict__" : Str)) = false := by decide +kernel
theorem nd_tuple : (("tuple" : Str) == ("__debug__" : Str)) = false := by decide +kernel
theorem nc_tuple : (("tuple" : Str) == ("__classdict__" : Str)) = false := by decide +kernel
theorem nd_value : (("value" : Str) == ("__debug__" : Str)) = false := by decide +kernel
theorem nc_value : (("value" : Str) == ("__classdict__" : Str)) = false := by decide +kernel
theorem fn_0 {P : Program} {w : World} {mg : Str → Option Value} {base : Heap} {W : Wd} (h : Wk P w mg base W) {fd : FuncData} (F : FunD W.K "is_whole" "is_whole" (defArgs (top 10)) (defBody (top 10)) (defScope (top 10)) [] [] (He.ga W.K "is_whole") fd) : FnG P w W.K mg base 1 (He.ga W.K "is_whole") fd ["value"] (spN W 1 f_is_whole) := by
  refine fn_ok (N := ["value"]) (d := d_is_whole) rfl F ⟨rfl, rfl, rfl, by decide +kernel, rfl, by decide +kernel, by decide +kernel⟩ (.refl _) fun cdv A outer s H E hr J2 => ?_
  exact (ys_one (ys_ret J2.toXJ (xe_and J2.toXJ (xe_isi (ty := .int) J2.toXJ lk_sc_0_isinstance h.g.b_isinstance lk_sc_0_int h.g.b_int bt_int (by decide) (xe_var (i := 0) rfl (.inl lk_sc_0_value) nd_value nc_value) nn_int nd_int) (xe_one (xe_not J2.toXJ (xe_isi (ty := .bool) J2.toXJ lk_sc_0_isinstance h.g.b_isinstance lk_sc_0_bool h.g.b_bool bt_bool (by decide) (xe_var (i := 0) rfl (.inl lk_sc_0_value) nd_value nc_value) nn_bool nd_bool))))))
theorem bn_0 {K : PySem.W.Frag} {f : Addr} {fd : FuncData} (F : FunD K "is_whole" "is_whole" (defArgs (top 10)) (defBody (top 10)) (defScope (top 10)) [] [] f fd) : Binds K fd ["value"] [] := F.bindsN fun _ _ _ _ _ _ us hl => match us, hl with | [_], _ => rfl
theorem c_0 {P : Program} {w : World} {mg : Str → Option Value} {base : Heap} {W : Wd} (h : Wk P w mg base W) : Cal P w mg base 1 "is_whole" 1 W f_is_whole := by
  obtain ⟨fd, F⟩ := h.def_ 0 _ rfl
  exact ⟨_, fd, ["value"], rfl, fn_0 h F, h.x_0, F.kp, bn_0 F⟩
theorem fn_1 {P : Program} {w : World} {mg : Str → Option Value} {base : Heap} {W : Wd} (h : Wk P w mg base W) {fd : FuncData} (F : FunD W.K "is_within" "is_within" (defArgs (top 11)) (defBody (top 11)) (defScope (top 11)) [] [] (He.ga W.K "is_within") fd) : FnG P w W.K mg base 2 (He.ga W.K "is_within") fd ["value", "least", "greatest"] (spN W 3 f_is_within) := by
  have hc_0 := c_0 h
  refine fn_ok (N := ["value", "least", "greatest"]) (d := d_is_within) rfl F ⟨rfl, rfl, rfl, by decide +kernel, rfl, by decide +kernel, by decide +kernel⟩ (.refl _) fun cdv A outer s H E hr J2 => ?_
  exact (ys_one (ys_ret J2.toXJ (xe_and J2.toXJ (xe_call J2 (hc_0.mono (by decide)) hr lk_sc_1_is_whole (xa_cons J2.toXJ (xe_var (i := 0) rfl (.inl lk_sc_1_value) nd_value nc_value) xa_nil) nd_is_whole) (xe_one (xe_chain J2.toXJ op_leA op_leA ok_cmp ok_cmp (xe_var (i := 1) rfl (.inl lk_sc_1_least) nd_least nc_least) (xe_var (i := 0) rfl (.inl lk_sc_1_value) nd_value nc_value) (xe_var (i := 2) rfl (.inl lk_sc_1_greatest) nd_greatest nc_greatest) (by rfl))))))
theorem bn_1 {K : PySem.W.Frag} {f : Addr} {fd : FuncData} (F : FunD K "is_within" "is_within" (defArgs (top 11)) (defBody (top 11)) (defScope (top 11)) [] [] f fd) : Binds K fd ["value", "least", "greatest"] [] := F.bindsN fun _ _ _ _ _ _ us hl => match us, hl with | [_, _, _], _ => rfl
theorem c_1 {P : Program} {w : World} {mg : Str → Option Value} {base : Heap} {W : Wd} (h : Wk P w mg base W) : Cal P w mg base 2 "is_within" 3 W f_is_within := by
  obtain ⟨fd, F⟩ := h.def_ 1 _ rfl
  exact ⟨_, fd, ["value", "least", "greatest"], rfl, fn_1 h F, h.x_1, F.kp, bn_1 F⟩
theorem fn_2 {P : Program} {w : World} {mg : Str → Option Value} {base : Heap} {W : Wd} (h : Wk P w mg base W) {fd : FuncData} (F : FunD W.K "is_cell" "is_cell" (defArgs (top 12)) (defBody (top 12)) (defScope (top 12)) [] [] (He.ga W.K "is_cell") fd) : FnG P w W.K mg base 3 (He.ga W.K "is_cell") fd ["value"] (spN W 1 f_is_cell) := by
  have hc_1 := c_1 h
  refine fn_ok (N := ["value"]) (d := d_is_cell) rfl F ⟨rfl, rfl, rfl, by decide +kernel, rfl, by decide +kernel, by decide +kernel⟩ (.refl _) fun cdv A outer s H E hr J2 => ?_
  exact (ys_one (ys_ret J2.toXJ (xe_call J2 (hc_1.mono (by decide)) hr lk_sc_2_is_within (xa_cons J2.toXJ (xe_var (i := 0) rfl (.inl lk_sc_2_value) nd_value nc_value) (xa_cons J2.toXJ xe_int (xa_cons J2.toXJ (xe_gint lk_sc_2_MAX_CELL h.g.MAX_CELL nd_MAX_CELL) xa_nil))) nd_is_within)))
theorem bn_2 {K : PySem.W.Frag} {f : Addr} {fd : FuncData} (F : FunD K "is_cell" "is_cell" (defArgs (top 12)) (defBody (top 12)) (defScope (top 12)) [] [] f fd) : Binds K fd ["value"] [] := F.bindsN fun _ _ _ _ _ _ us hl => match us, hl with | [_], _ => rfl
theorem c_2 {P : Program} {w : World} {mg : Str → Option Value} {base : Heap} {W : Wd} (h : Wk P w mg base W) : Cal P w mg base 3 "is_cell" 1 W f_is_cell := by
  obtain ⟨fd, F⟩ := h.def_ 2 _ rfl
  exact ⟨_, fd, ["value"], rfl, fn_2 h F, h.x_2, F.kp, bn_2 F⟩
theorem fn_3 {P : Program} {w : World} {mg : Str → Option Value} {base : Heap} {W : Wd} (h : Wk P w mg base W) {fd : FuncData} (F : FunD W.K "is_cells" "is_cells" (defArgs (top 13)) (defBody (top 13)) (defScope (top 13)) [] [] (He.ga W.K "is_cells") fd) : FnG P w W.K mg base 4 (He.ga W.K "is_cells") fd ["value"] (spN W 1 f_is_cells) := by
  have hc_2 := c_2 h
  refine fn_ok (N := ["value", "cell"]) (d := d_is_cells) rfl F ⟨rfl, rfl, rfl, by decide +kernel, rfl, by decide +kernel, by decide +kernel⟩ (r_is_cells) fun cdv A outer s H E hr J2 => ?_
  exact (ys_one (ys_ret J2.toXJ (xe_and J2.toXJ (xe_isi (ty := .tuple) J2.toXJ lk_sc_3_isinstance h.g.b_isinstance lk_sc_3_tuple h.g.b_tuple bt_tuple (by decide) (xe_var (i := 0) rfl (.inl lk_sc_3_value) nd_value nc_value) nn_tuple nd_tuple) (xe_one (xe_callB J2.toXJ (cr_all J2.cm) (by rw [← J2.toXJ.K]; exact ok_bls) lk_sc_3_all h.g.b_all bt_all (xa_cons J2.toXJ (xc_lc J2  (xi_val J2.toXJ (xe_var (i := 0) rfl (.inl lk_sc_3_value) nd_value nc_value)) (own := [("cell", 1)]) (by kernel_rfl) (by rfl) (fun s H C cl fp B2 => (yg_nm (i := 1) B2.nd rfl (.inl (by kernel_rfl)) (.inr (by kernel_rfl)))) (fun s H C cl fp B2 => pts_yes) (fun s H C cl fp B2 => (xe_call B2 (hc_2.mono (by decide)) hr (gl_of (by kernel_rfl)) (xa_cons B2.toXJ (xe_var (i := 1) rfl (.inl (by kernel_rfl)) nd_cell nc_cell) xa_nil) nd_is_cell))) xa_nil) nn_all nd_all)))))
theorem bn_3 {K : PySem.W.Frag} {f : Addr} {fd : FuncData} (F : FunD K "is_cells" "is_cells" (defArgs (top 13)) (defBody (top 13)) (defScope (top 13)) [] [] f fd) : Binds K fd ["value"] [] := F.bindsN fun _ _ _ _ _ _ us hl => match us, hl with | [_], _ => rfl
theorem c_3 {P : Program} {w : World} {mg : Str → Option Value} {base : Heap} {W : Wd} (h : Wk P w mg base W) : Cal P w mg base 4 "is_cells" 1 W f_is_cells := by
  obtain ⟨fd, F⟩ := h.def_ 3 _ rfl
  exact ⟨_, fd, ["value"], rfl, fn_3 h F, h.x_3, F.kp, bn_3 F⟩
theorem fn_4 {P : Program} {w : World} {mg : Str → Option Value} {base : Heap} {W : Wd} (h : Wk P w mg base W) {fd : FuncData} (F : FunD W.K "is_name" "is_name" (defArgs (top 14)) (defBody (top 14)) (defScope (top 14)) [] [] (He.ga W.K "is_name") fd) : FnG P w W.K mg base 1 (He.ga W.K "is_name") fd ["value"] (spN W 1 f_is_name) := by
  refine fn_ok (N := ["value", "sign"]) (d := d_is_name) rfl F ⟨rfl, rfl, rfl, by decide +kernel, rfl, by decide +kernel, by decide +kernel⟩ (r_is_name) fun cdv A outer s H E hr J2 => ?_
  exact (ys_cons J2.toXJ (ys_if J2.toXJ (xw_or J2.toXJ (xt_not J2.toXJ (xt_val J2.toXJ (xe_isi (ty := .str) J2.toXJ lk_sc_4_isinstance h.g.b_isinstance lk_sc_4_str h.g.b_str bt_str (by decide) (xe_var (i := 0) rfl (.inl lk_sc_4_value) nd_value nc_value) nn_str nd_str))) (xw_or1 (xt_not J2.toXJ (xt_chain J2.toXJ op_leA op_leA ok_cmp ok_cmp xe_int (xe_callB J2.toXJ call_len (by rw [← J2.toXJ.K]; exact ok_len) lk_sc_4_len h.g.b_len bt_len (xa_cons J2.toXJ (xe_var (i := 0) rfl (.inl lk_sc_4_value) nd_value nc_value) xa_nil) nn_len nd_len) (xe_gint lk_sc_4_MAX_NAME h.g.MAX_NAME nd_MAX_NAME) (by rfl))))).pt (ys_one (ys_ret J2.toXJ xe_bl)) ys_nil) (ys_one (ys_ret J2.toXJ (xe_callB J2.toXJ (cr_all J2.cm) (by rw [← J2.toXJ.K]; exact ok_bls) lk_sc_4_all h.g.b_all bt_all (xa_cons J2.toXJ (xc_lc J2  (xi_val J2.toXJ (xe_var (i := 0) rfl (.inl lk_sc_4_value) nd_value nc_value)) (own := [("sign", 1)]) (by kernel_rfl) (by rfl) (fun s H C cl fp B2 => (yg_nm (i := 1) B2.nd rfl (.inl (by kernel_rfl)) (.inr (by kernel_rfl)))) (fun s H C cl fp B2 => pts_yes) (fun s H C cl fp B2 => (xe_cmp B2.toXJ (op_inK (u65 hr)) (by rw [← B2.toXJ.K]; exact ok_inK) (xe_var (i := 1) rfl (.inl (by kernel_rfl)) nd_sign nc_sign) (xe_gstr (by kernel_rfl) (gl_of (by kernel_rfl)) h.g.LETTERS nd_LETTERS) (by with_unfolding_all rfl)))) xa_nil) nn_all nd_all))))
theorem bn_4 {K : PySem.W.Frag} {f : Addr} {fd : FuncData} (F : FunD K "is_name" "is_name" (defArgs (top 14)) (defBody (top 14)) (defScope (top 14)) [] [] f fd) : Binds K fd ["value"] [] := F.bindsN fun _ _ _ _ _ _ us hl => match us, hl with | [_], _ => rfl
theorem c_4 {P : Program} {w : World} {mg : Str → Option Value} {base : Heap} {W : Wd} (h : Wk P w mg base W) : Cal P w mg base 1 "is_name" 1 W f_is_name := by
  obtain ⟨fd, F⟩ := h.def_ 4 _ rfl
  exact ⟨_, fd, ["value"], rfl, fn_4 h F, h.x_4, F.kp, bn_4 F⟩
theorem fn_5 {P : Program} {w : World} {mg : Str → Option Value} {base : Heap} {W : Wd} (h : Wk P w mg base W) {fd : FuncData} (F : FunD W.K "require_name" "require_name" (defArgs (top 15)) (defBody (top 15)) (defScope (top 15)) [] [] (He.ga W.K "require_name") fd) : FnG P w W.K mg base 2 (He.ga W.K "require_name") fd ["value"] (spN W 1 f_require_name) := by
  have hc_4 := c_4 h
  refine fn_ok (N := ["value"]) (d := d_require_name) rfl F ⟨rfl, rfl, rfl, by decide +kernel, rfl, by decide +kernel, by decide +kernel⟩ (.refl _) fun cdv A outer s H E hr J2 => ?_
  exact (ys_one (ys_if J2.toXJ (xt_not J2.toXJ (xt_val J2.toXJ (xe_call J2 (hc_4.mono (by decide)) hr lk_sc_5_is_name (xa_cons J2.toXJ (xe_var (i := 0) rfl (.inl lk_sc_5_value) nd_value nc_value) xa_nil) nd_is_name))) (ys_one ys_never) ys_nil))
theorem bn_5 {K : PySem.W.Frag} {f : Addr} {fd : FuncData} (F : FunD K "require_name" "require_name" (defArgs (top 15)) (defBody (top 15)) (defScope (top 15)) [] [] f fd) : Binds K fd ["value"] [] := F.bindsN fun _ _ _ _ _ _ us hl => match us, hl with | [_], _ => rfl
theorem c_5 {P : Program} {w : World} {mg : Str → Option Value} {base : Heap} {W : Wd} (h : Wk P w mg base W) : Cal P w mg base 2 "require_name" 1 W f_require_name := by
  obtain ⟨fd, F⟩ := h.def_ 5 _ rfl
  exact ⟨_, fd, ["value"], rfl, fn_5 h F, h.x_5, F.kp, bn_5 F⟩
theorem fn_6 {P : Program} {w : World} {mg : Str → Option Value} {base : Heap} {W : Wd} (h : Wk P w mg base W) {fd : FuncData} (F : FunD W.K "cells_in" "cells_in" (defArgs (top 16)) (defBody (top 16)) (defScope (top 16)) [] [] (He.ga W.K "cells_in") fd) : FnG P w W.K mg base 1 (He.ga W.K "cells_in") fd ["name"] (spN W 1 f_cells_in) := by
  refine fn_ok (N := ["name", "figures", "sign"]) (d := d_cells_in) rfl F ⟨rfl, rfl, rfl, by decide +kernel, rfl, by decide +kernel, by decide +kernel⟩ (r_cells_in) fun cdv A outer s H E hr J2 => ?_
  exact (ys_cons J2.toXJ (yc_setLc (i := 1) J2 rfl lk_sc_6_figures (by rfl) (xi_val J2.toXJ (xe_var (i := 0) rfl (.inl lk_sc_6_name) nd_name nc_name)) (own := [("sign", 2)]) (by kernel_rfl) (by rfl) (fun s H C cl fp B2 => (yg_nm (i := 2) B2.nd rfl (.inl (by kernel_rfl)) (.inr (by kernel_rfl)))) (fun s H C cl fp B2 => pts_yes) (fun s H C cl fp B2 => (xe_bin B2.toXJ op_addA (by rw [← B2.toXJ.K]; exact ok_add) (xe_met B2.toXJ PySem.F.plainAttrs_str PySem.F.slot_str_index PySem.F.type_str_index mt_sindex ty_str ok_sindex (xe_gstr (by kernel_rfl) (gl_of (by kernel_rfl)) h.g.LETTERS nd_LETTERS) (xa_cons B2.toXJ (xe_var (i := 2) rfl (.inl (by kernel_rfl)) nd_sign nc_sign) xa_nil)) xe_int))) (ys_cons J2.toXJ (ys_expr J2.toXJ (xe_met J2.toXJ PySem.F.plainAttrs_list PySem.F.slot_list_extend PySem.F.type_list_extend mt_extend ty_lst ok_extend (xe_var (i := 1) rfl (.inl lk_sc_6_figures) nd_figures nc_figures) (xa_cons J2.toXJ (xe_bin J2.toXJ op_mulA ok_mul (xe_lst J2.toXJ (xa_cons J2.toXJ xe_int xa_nil)) (xe_bin J2.toXJ op_subT ok_sub (xe_gint lk_sc_6_MAX_NAME h.g.MAX_NAME nd_MAX_NAME) (xe_callB J2.toXJ call_len (by rw [← J2.toXJ.K]; exact ok_len) lk_sc_6_len h.g.b_len bt_len (xa_cons J2.toXJ (xe_var (i := 1) rfl (.inl lk_sc_6_figures) nd_figures nc_figures) xa_nil) nn_len nd_len))) xa_nil))) (ys_one (ys_ret J2.toXJ (xe_tup J2.toXJ (xa_cons J2.toXJ (xe_bin J2.toXJ op_addA (by rw [← J2.toXJ.K]; exact ok_add) (xe_bin J2.toXJ op_mulA ok_mul (xe_gint lk_sc_6_FIGURES h.g.FIGURES nd_FIGURES) (xe_ix J2.toXJ (xe_var (i := 1) rfl (.inl lk_sc_6_figures) nd_figures nc_figures) xe_int)) (xe_ix J2.toXJ (xe_var (i := 1) rfl (.inl lk_sc_6_figures) nd_figures nc_figures) xe_int)) (xa_cons J2.toXJ (xe_bin J2.toXJ op_addA (by rw [← J2.toXJ.K]; exact ok_add) (xe_bin J2.toXJ op_mulA ok_mul (xe_gint lk_sc_6_FIGURES h.g.FIGURES nd_FIGURES) (xe_ix J2.toXJ (xe_var (i := 1) rfl (.inl lk_sc_6_figures) nd_figures nc_figures) xe_int)) (xe_ix J2.toXJ (xe_var (i := 1) rfl (.inl lk_sc_6_figures) nd_figures nc_figures) xe_int)) xa_nil)))))))
theorem bn_6 {K : PySem.W.Frag} {f : Addr} {fd : FuncData} (F : FunD K "cells_in" "cells_in" (defArgs (top 16)) (defBody (top 16)) (defScope (top 16)) [] [] f fd) : Binds K fd ["name"] [] := F.bindsN fun _ _ _ _ _ _ us hl => match us, hl with | [_], _ => rfl
theorem c_6 {P : Program} {w : World} {mg : Str → Option Value} {base : Heap} {W : Wd} (h : Wk P w mg base W) : Cal P w mg base 1 "cells_in" 1 W f_cells_in := by
  obtain ⟨fd, F⟩ := h.def_ 6 _ rfl
  exact ⟨_, fd, ["name"], rfl, fn_6 h F, h.x_6, F.kp, bn_6 F⟩
theorem fn_7 {P : Program} {w : World} {mg : Str → Option Value} {base : Heap} {W : Wd} (h : Wk P w mg base W) {fd : FuncData} (F : FunD W.K "name_in" "name_in" (defArgs (top 17)) (defBody (top 17)) (defScope (top 17)) [] [] (He.ga W.K "name_in") fd) : FnG P w W.K mg base 2 (He.ga W.K "name_in") fd ["first", "second"] (spN W 2 f_name_in) := by
  have hc_6 := c_6 h
  refine fn_ok (N := ["first", "second", "figures", "name", "figure"]) (d := d_name_in) rfl F ⟨rfl, rfl, rfl, by decide +kernel, rfl, by decide +kernel, by decide +kernel⟩ (r_name_in) fun cdv A outer s H E hr J2 => ?_
  exact (ys_cons J2.toXJ (ys_if J2.toXJ (xt_cmp J2.toXJ op_geA ok_cmp (xe_callB J2.toXJ (CallR.or (call_max2 J2.cm) (cr_max J2.cm)) (by rw [← J2.toXJ.K]; exact ok_max) lk_sc_7_max h.g.b_max bt_max (xa_cons J2.toXJ (xe_var (i := 0) rfl (.inl lk_sc_7_first) nd_first nc_first) (xa_cons J2.toXJ (xe_var (i := 1) rfl (.inl lk_sc_7_second) nd_second nc_second) xa_nil)) nn_max nd_max) (xe_bin J2.toXJ op_mulA ok_mul (xe_gint lk_sc_7_FIGURES h.g.FIGURES nd_FIGURES) (xe_gint lk_sc_7_FIGURES h.g.FIGURES nd_FIGURES)) (nomark _)) (ys_one (ys_ret J2.toXJ xe_non)) ys_nil) (ys_cons J2.toXJ (ys_set (i := 2) J2.toXJ J2.nd rfl (.inl lk_sc_7_figures) (xe_lst J2.toXJ (xa_cons J2.toXJ (xe_bin J2.toXJ op_fdivW ok_fdiv (xe_var (i := 0) rfl (.inl lk_sc_7_first) nd_first nc_first) (xe_gint lk_sc_7_FIGURES h.g.FIGURES nd_FIGURES)) (xa_cons J2.toXJ (xe_bin J2.toXJ op_mod ok_mod (xe_var (i := 0) rfl (.inl lk_sc_7_first) nd_first nc_first) (xe_gint lk_sc_7_FIGURES h.g.FIGURES nd_FIGURES)) (xa_cons J2.toXJ (xe_bin J2.toXJ op_fdivW ok_fdiv (xe_var (i := 1) rfl (.inl lk_sc_7_second) nd_second nc_second) (xe_gint lk_sc_7_FIGURES h.g.FIGURES nd_FIGURES)) (xa_cons J2.toXJ (xe_bin J2.toXJ op_mod ok_mod (xe_var (i := 1) rfl (.inl lk_sc_7_second) nd_second nc_second) (xe_gint lk_sc_7_FIGURES h.g.FIGURES nd_FIGURES)) xa_nil))))) (by rfl) (.inl rfl)) (ys_cons J2.toXJ (ys_set (i := 3) J2.toXJ J2.nd rfl (.inl lk_sc_7_name) (xe_met J2.toXJ PySem.F.plainAttrs_str PySem.F.slot_str_join PySem.F.type_str_join mt_join ty_str (by rw [← J2.toXJ.K]; exact ok_join) (xe_str (by kernel_rfl)) (xa_cons J2.toXJ (xc_lc J2  (xi_val J2.toXJ (xe_var (i := 2) rfl (.inl lk_sc_7_figures) nd_figures nc_figures)) (own := [("figure", 4)]) (by kernel_rfl) (by rfl) (fun s H C cl fp B2 => (yg_nm (i := 4) B2.nd rfl (.inl (by kernel_rfl)) (.inr (by kernel_rfl)))) (fun s H C cl fp B2 => (pts_of (xt_cmp B2.toXJ op_gtA ok_cmp (xe_var (i := 4) rfl (.inl (by kernel_rfl)) nd_figure nc_figure) xe_int (nomark _)))) (fun s H C cl fp B2 => (xe_ix B2.toXJ (xe_gstr (by kernel_rfl) (gl_of (by kernel_rfl)) h.g.LETTERS nd_LETTERS) (xe_bin B2.toXJ op_subT ok_sub (xe_var (i := 4) rfl (.inl (by kernel_rfl)) nd_figure nc_figure) xe_int)))) xa_nil)) (by rfl) (.inl rfl)) (ys_one (ys_ret J2.toXJ (xe_if J2.toXJ (xw_and J2.toXJ (xt_cmp J2.toXJ (op_neA hr.units) (by rw [← J2.toXJ.K]; exact ok_ne) (xe_var (i := 3) rfl (.inl lk_sc_7_name) nd_name nc_name) (xe_str (by kernel_rfl)) (nomark _)) (xw_and1 (xt_cmp J2.toXJ (op_eqA hr.units) (by rw [← J2.toXJ.K]; exact ok_eq) (xe_call J2 (hc_6.mono (by decide)) hr lk_sc_7_cells_in (xa_cons J2.toXJ (xe_var (i := 3) rfl (.inl lk_sc_7_name) nd_name nc_name) xa_nil) nd_cells_in) (xe_tup J2.toXJ (xa_cons J2.toXJ (xe_var (i := 0) rfl (.inl lk_sc_7_first) nd_first nc_first) (xa_cons J2.toXJ (xe_var (i := 1) rfl (.inl lk_sc_7_second) nd_second nc_second) xa_nil))) (nomark _)))).pt (xe_var (i := 3) rfl (.inl lk_sc_7_name) nd_name nc_name) xe_non))))))
theorem bn_7 {K : PySem.W.Frag} {f : Addr} {fd : FuncData} (F : FunD K "name_in" "name_in" (defArgs (top 17)) (defBody (top 17)) (defScope (top 17)) [] [] f fd) : Binds K fd ["first", "second"] [] := F.bindsN fun _ _ _ _ _ _ us hl => match us, hl with | [_, _], _ => rfl
theorem c_7 {P : Program} {w : World} {mg : Str → Option Value} {base : Heap} {W : Wd} (h : Wk P w mg base W) : Cal P w mg base 2 "name_in" 2 W f_name_in := by
  obtain ⟨fd, F⟩ := h.def_ 7 _ rfl
  exact ⟨_, fd, ["first", "second"], rfl, fn_7 h F, h.x_7, F.kp, bn_7 F⟩
theorem fn_8 {P : Program} {w : World} {mg : Str → Option Value} {base : Heap} {W : Wd} (h : Wk P w mg base W) {fd : FuncData} (F : FunD W.K "name_cells" "name_cells" (defArgs (top 18)) (defBody (top 18)) (defScope (top 18)) [] [] (He.ga W.K "name_cells") fd) : FnG P w W.K mg base 3 (He.ga W.K "name_cells") fd ["name"] (spN W 1 f_name_cells) := by
  have hc_5 := c_5 h
  have hc_6 := c_6 h
  refine fn_ok (N := ["name"]) (d := d_name_cells) rfl F ⟨rfl, rfl, rfl, by decide +kernel, rfl, by decide +kernel, by decide +kernel⟩ (r_name_cells) fun cdv A outer s H E hr J2 => ?_
  exact (ys_cons J2.toXJ (ys_expr J2.toXJ (xe_call J2 (hc_5.mono (by decide)) hr lk_sc_8_require_name (xa_cons J2.toXJ (xe_var (i := 0) rfl (.inl lk_sc_8_name) nd_name nc_name) xa_nil) nd_require_name)) (ys_one (ys_ret J2.toXJ (xe_call J2 (hc_6.mono (by decide)) hr lk_sc_8_cells_in (xa_cons J2.toXJ (xe_var (i := 0) rfl (.inl lk_sc_8_name) nd_name nc_name) xa_nil) nd_cells_in))))
theorem bn_8 {K : PySem.W.Frag} {f : Addr} {fd : FuncData} (F : FunD K "name_cells" "name_cells" (defArgs (top 18)) (defBody (top 18)) (defScope (top 18)) [] [] f fd) : Binds K fd ["name"] [] := F.bindsN fun _ _ _ _ _ _ us hl => match us, hl with | [_], _ => rfl
theorem c_8 {P : Program} {w : World} {mg : Str → Option Value} {base : Heap} {W : Wd} (h : Wk P w mg base W) : Cal P w mg base 3 "name_cells" 1 W f_name_cells := by
  obtain ⟨fd, F⟩ := h.def_ 8 _ rfl
  exact ⟨_, fd, ["name"], rfl, fn_8 h F, h.x_8, F.kp, bn_8 F⟩
theorem fn_9 {P : Program} {w : World} {mg : Str → Option Value} {base : Heap} {W : Wd} (h : Wk P w mg base W) {fd : FuncData} (F : FunD W.K "cells_name" "cells_name" (defArgs (top 19)) (defBody (top 19)) (defScope (top 19)) [] [] (He.ga W.K "cells_name") fd) : FnG P w W.K mg base 4 (He.ga W.K "cells_name") fd ["first", "second"] (spN W 2 f_cells_name) := by
  have hc_2 := c_2 h
  have hc_7 := c_7 h
  refine fn_ok (N := ["first", "second", "value"]) (d := d_cells_name) rfl F ⟨rfl, rfl, rfl, by decide +kernel, rfl, by decide +kernel, by decide +kernel⟩ (r_cells_name) fun cdv A outer s H E hr J2 => ?_
  exact (ys_cons J2.toXJ (ys_for J2 (xi_val J2.toXJ (xe_tup J2.toXJ (xa_cons J2.toXJ (xe_var (i := 0) rfl (.inl lk_sc_9_first) nd_first nc_first) (xa_cons J2.toXJ (xe_var (i := 1) rfl (.inl lk_sc_9_second) nd_second nc_second) xa_nil)))) (yg_nm (i := 2) J2.nd rfl (.inl lk_sc_9_value) (.inl rfl)) (ys_one (ys_if J2.toXJ (xt_not J2.toXJ (xt_val J2.toXJ (xe_call J2 (hc_2.mono (by decide)) hr lk_sc_9_is_cell (xa_cons J2.toXJ (xe_var (i := 2) rfl (.inl lk_sc_9_value) nd_value nc_value) xa_nil) nd_is_cell))) (ys_one ys_never) ys_nil))) (ys_one (ys_ret J2.toXJ (xe_call J2 (hc_7.mono (by decide)) hr lk_sc_9_name_in (xa_cons J2.toXJ (xe_var (i := 0) rfl (.inl lk_sc_9_first) nd_first nc_first) (xa_cons J2.toXJ (xe_var (i := 1) rfl (.inl lk_sc_9_second) nd_second nc_second) xa_nil)) nd_name_in))))
theorem bn_9 {K : PySem.W.Frag} {f : Addr} {fd : FuncData} (F : FunD K "cells_name" "cells_name" (defArgs (top 19)) (defBody (top 19)) (defScope (top 19)) [] [] f fd) : Binds K fd ["first", "second"] [] := F.bindsN fun _ _ _ _ _ _ us hl => match us, hl with | [_, _], _ => rfl
theorem c_9 {P : Program} {w : World} {mg : Str → Option Value} {base : Heap} {W : Wd} (h : Wk P w mg base W) : Cal P w mg base 4 "cells_name" 2 W f_cells_name := by
  obtain ⟨fd, F⟩ := h.def_ 9 _ rfl
  exact ⟨_, fd, ["first", "second"], rfl, fn_9 h F, h.x_9, F.kp, bn_9 F⟩
theorem fn_10 {P : Program} {w : World} {mg : Str → Option Value} {base : Heap} {W : Wd} (h : Wk P w mg base W) {fd : FuncData} (F : FunD W.K "_law_well" "_law_well" (defArgs (top 21)) (defBody (top 21)) (defScope (top 21)) [] [] (He.ga W.K "_law_well") fd) : FnG P w W.K mg base 1 (He.ga W.K "_law_well") fd ["_law_script", "_law_spot"] (spN W 2 f__law_well) := by
  refine fn_ok (N := ["_law_script", "_law_spot", "_law_cell", "_law_great", "_law_mixed"]) (d := d__law_well) rfl F ⟨rfl, rfl, rfl, by decide +kernel, rfl, by decide +kernel, by decide +kernel⟩ (.refl _) fun cdv A outer s H E hr J2 => ?_
  exact (ys_cons J2.toXJ (ys_set (i := 2) J2.toXJ J2.nd rfl (.inl lk_sc_10__law_cell) (xe_if J2.toXJ (xt_cmp J2.toXJ op_ltA ok_cmp (xe_var (i := 1) rfl (.inl lk_sc_10__law_spot) nd__law_spot nc__law_spot) (xe_callB J2.toXJ call_len (by rw [← J2.toXJ.K]; exact ok_len) lk_sc_10_len h.g.b_len bt_len (xa_cons J2.toXJ (xe_var (i := 0) rfl (.inl lk_sc_10__law_script) nd__law_script nc__law_script) xa_nil) nn_len nd_len) (nomark _)) (xe_callTy J2.toXJ call_int1 ok_intA lk_sc_10_int h.g.b_int bt_int (xa_cons J2.toXJ (xe_ix J2.toXJ (xe_var (i := 0) rfl (.inl lk_sc_10__law_script) nd__law_script nc__law_script) (xe_var (i := 1) rfl (.inl lk_sc_10__law_spot) nd__law_spot nc__law_spot)) xa_nil) nn_int nd_int) (xe_bin J2.toXJ op_addA (by rw [← J2.toXJ.K]; exact ok_add) (xe_bin J2.toXJ op_addA (by rw [← J2.toXJ.K]; exact ok_add) (xe_bin J2.toXJ op_mulA ok_mul xe_int (xe_var (i := 1) rfl (.inl lk_sc_10__law_spot) nd__law_spot nc__law_spot)) xe_int) (xe_bin J2.toXJ op_mod ok_mod (xe_callTy J2.toXJ call_int1 ok_intA lk_sc_10_int h.g.b_int bt_int (xa_cons J2.toXJ (xe_callB J2.toXJ (cr_sum J2.cm) (by rw [← J2.toXJ.K]; exact ok_sum) lk_sc_10_sum h.g.b_sum bt_sum (xa_cons J2.toXJ (xe_sl J2.toXJ (xe_var (i := 0) rfl (.inl lk_sc_10__law_script) nd__law_script nc__law_script) xo_none (xo_some J2.toXJ xe_int)) xa_nil) nn_sum nd_sum) xa_nil) nn_int nd_int) xe_int))) (by rfl) (.inl rfl)) (ys_cons J2.toXJ (ys_set (i := 3) J2.toXJ J2.nd rfl (.inl lk_sc_10__law_great) (xe_bin J2.toXJ op_mod ok_mod (xe_callTy J2.toXJ call_int1 ok_intA lk_sc_10_int h.g.b_int bt_int (xa_cons J2.toXJ (xe_callB J2.toXJ call_abs ok_int1 lk_sc_10_abs h.g.b_abs bt_abs (xa_cons J2.toXJ (xe_var (i := 2) rfl (.inl lk_sc_10__law_cell) nd__law_cell nc__law_cell) xa_nil) nn_abs nd_abs) xa_nil) nn_int nd_int) (xe_bin J2.toXJ op_powB ok_pow (xe_bin J2.toXJ op_powB ok_pow xe_int xe_int) xe_int)) (by rfl) (.inl rfl)) (ys_cons J2.toXJ (ys_set (i := 4) J2.toXJ J2.nd rfl (.inl lk_sc_10__law_mixed) (xe_callTy J2.toXJ call_int1 ok_intA lk_sc_10_int h.g.b_int bt_int (xa_cons J2.toXJ (xe_bin J2.toXJ op_addA (by rw [← J2.toXJ.K]; exact ok_add) (xe_bin J2.toXJ op_addA (by rw [← J2.toXJ.K]; exact ok_add) (xe_bin J2.toXJ op_addA (by rw [← J2.toXJ.K]; exact ok_add) (xe_bin J2.toXJ op_mulA ok_mul (xe_bin J2.toXJ op_mod ok_mod (xe_var (i := 3) rfl (.inl lk_sc_10__law_great) nd__law_great nc__law_great) xe_int) xe_int) (xe_bin J2.toXJ op_mulA ok_mul xe_int (xe_var (i := 1) rfl (.inl lk_sc_10__law_spot) nd__law_spot nc__law_spot))) (xe_bin J2.toXJ op_mulA ok_mul xe_int (xe_callTy J2.toXJ call_int1 ok_intA lk_sc_10_int h.g.b_int bt_int (xa_cons J2.toXJ (xe_cmp J2.toXJ op_ltA ok_cmp (xe_var (i := 2) rfl (.inl lk_sc_10__law_cell) nd__law_cell nc__law_cell) xe_int (nomark _)) xa_nil) nn_int nd_int))) xe_int) xa_nil) nn_int nd_int) (by rfl) (.inl rfl)) (ys_one (ys_ret J2.toXJ (xe_lst J2.toXJ (xa_cons J2.toXJ (xe_callB J2.toXJ (CallR.or (call_max2 J2.cm) (cr_max J2.cm)) (by rw [← J2.toXJ.K]; exact ok_max) lk_sc_10_max h.g.b_max bt_max (xa_cons J2.toXJ xe_int (xa_cons J2.toXJ (xe_bin J2.toXJ op_subT ok_sub (xe_var (i := 3) rfl (.inl lk_sc_10__law_great) nd__law_great nc__law_great) (xe_bin J2.toXJ op_powB ok_pow xe_int xe_int)) xa_nil)) nn_max nd_max) (xa_cons J2.toXJ (xe_bin J2.toXJ op_mod ok_mod (xe_var (i := 4) rfl (.inl lk_sc_10__law_mixed) nd__law_mixed nc__law_mixed) xe_int) (xa_cons J2.toXJ xe_int xa_nil)))))))))
theorem bn_10 {K : PySem.W.Frag} {f : Addr} {fd : FuncData} (F : FunD K "_law_well" "_law_well" (defArgs (top 21)) (defBody (top 21)) (defScope (top 21)) [] [] f fd) : Binds K fd ["_law_script", "_law_spot"] [] := F.bindsN fun _ _ _ _ _ _ us hl => match us, hl with | [_, _], _ => rfl
theorem c_10 {P : Program} {w : World} {mg : Str → Option Value} {base : Heap} {W : Wd} (h : Wk P w mg base W) : Cal P w mg base 1 "_law_well" 2 W f__law_well := by
  obtain ⟨fd, F⟩ := h.def_ 10 _ rfl
  exact ⟨_, fd, ["_law_script", "_law_spot"], rfl, fn_10 h F, h.x_10, F.kp, bn_10 F⟩
theorem fn_11 {P : Program} {w : World} {mg : Str → Option Value} {base : Heap} {W : Wd} (h : Wk P w mg base W) {fd : FuncData} (F : FunD W.K "_law_drawn" "_law_drawn" (defArgs (top 22)) (defBody (top 22)) (defScope (top 22)) [] [] (He.ga W.K "_law_drawn") fd) : FnG P w W.K mg base 1 (He.ga W.K "_law_drawn") fd ["_law_well_here", "_law_many"] (spN W 2 f__law_drawn) := by
  refine fn_ok (N := ["_law_well_here", "_law_many", "_law_one", "_law_two", "_law_found"]) (d := d__law_drawn) rfl F ⟨rfl, rfl, rfl, by decide +kernel, rfl, by decide +kernel, by decide +kernel⟩ (.refl _) fun cdv A outer s H E hr J2 => ?_
  exact (ys_cons J2.toXJ (ys_if J2.toXJ (xt_cmp J2.toXJ op_gtA ok_cmp (xe_ix J2.toXJ (xe_var (i := 0) rfl (.inl lk_sc_11__law_well_here) nd__law_well_here nc__law_well_here) xe_int) xe_int (nomark _)) (ys_cons J2.toXJ (ys_set (i := 4) J2.toXJ J2.nd rfl (.inl lk_sc_11__law_found) (xe_bin J2.toXJ op_mod ok_mod (xe_callTy J2.toXJ call_int1 ok_intA lk_sc_11_int h.g.b_int bt_int (xa_cons J2.toXJ (xe_ix J2.toXJ (xe_var (i := 0) rfl (.inl lk_sc_11__law_well_here) nd__law_well_here nc__law_well_here) xe_int) xa_nil) nn_int nd_int) (xe_var (i := 1) rfl (.inl lk_sc_11__law_many) nd__law_many nc__law_many)) (by rfl) (.inl rfl)) (ys_cons J2.toXJ (ys_sub J2.toXJ set_list ok_setL (xe_var (i := 0) rfl (.inl lk_sc_11__law_well_here) nd__law_well_here nc__law_well_here) xe_int (xe_bin J2.toXJ op_fdivW ok_fdiv (xe_ix J2.toXJ (xe_var (i := 0) rfl (.inl lk_sc_11__law_well_here) nd__law_well_here nc__law_well_here) xe_int) (xe_var (i := 1) rfl (.inl lk_sc_11__law_many) nd__law_many nc__law_many))) (ys_one (ys_ret J2.toXJ (xe_var (i := 4) rfl (.inl lk_sc_11__law_found) nd__law_found nc__law_found))))) ys_nil) (ys_cons J2.toXJ (ys_sub J2.toXJ set_list ok_setL (xe_var (i := 0) rfl (.inl lk_sc_11__law_well_here) nd__law_well_here nc__law_well_here) xe_int (xe_bin J2.toXJ op_addA (by rw [← J2.toXJ.K]; exact ok_add) (xe_ix J2.toXJ (xe_var (i := 0) rfl (.inl lk_sc_11__law_well_here) nd__law_well_here nc__law_well_here) xe_int) xe_int)) (ys_cons J2.toXJ (ys_set (i := 2) J2.toXJ J2.nd rfl (.inl lk_sc_11__law_one) (xe_bin J2.toXJ op_mod ok_mod (xe_callTy J2.toXJ call_int1 ok_intA lk_sc_11_int h.g.b_int bt_int (xa_cons J2.toXJ (xe_bin J2.toXJ op_addA (by rw [← J2.toXJ.K]; exact ok_add) (xe_ix J2.toXJ (xe_var (i := 0) rfl (.inl lk_sc_11__law_well_here) nd__law_well_here nc__law_well_here) xe_int) (xe_bin J2.toXJ op_mulA ok_mul xe_int (xe_ix J2.toXJ (xe_var (i := 0) rfl (.inl lk_sc_11__law_well_here) nd__law_well_here nc__law_well_here) xe_int))) xa_nil) nn_int nd_int) xe_int) (by rfl) (.inl rfl)) (ys_cons J2.toXJ (ys_set (i := 3) J2.toXJ J2.nd rfl (.inl lk_sc_11__law_two) (xe_bin J2.toXJ op_addA (by rw [← J2.toXJ.K]; exact ok_add) (xe_bin J2.toXJ op_addA (by rw [← J2.toXJ.K]; exact ok_add) (xe_bin J2.toXJ op_mulA ok_mul (xe_bin J2.toXJ op_mod ok_mod (xe_callTy J2.toXJ call_int1 ok_intA lk_sc_11_int h.g.b_int bt_int (xa_cons J2.toXJ (xe_bin J2.toXJ op_mulA ok_mul (xe_var (i := 2) rfl (.inl lk_sc_11__law_one) nd__law_one nc__law_one) (xe_var (i := 2) rfl (.inl lk_sc_11__law_one) nd__law_one nc__law_one)) xa_nil) nn_int nd_int) xe_int) xe_int) (xe_var (i := 2) rfl (.inl lk_sc_11__law_one) nd__law_one nc__law_one)) (xe_bin J2.toXJ op_mulA ok_mul xe_int (xe_ix J2.toXJ (xe_var (i := 0) rfl (.inl lk_sc_11__law_well_here) nd__law_well_here nc__law_well_here) xe_int))) (by rfl) (.inl rfl)) (ys_one (ys_ret J2.toXJ (xe_bin J2.toXJ op_mod ok_mod (xe_callTy J2.toXJ call_int1 ok_intA lk_sc_11_int h.g.b_int bt_int (xa_cons J2.toXJ (xe_bin J2.toXJ op_fdivW ok_fdiv (xe_var (i := 3) rfl (.inl lk_sc_11__law_two) nd__law_two nc__law_two) xe_int) xa_nil) nn_int nd_int) (xe_var (i := 1) rfl (.inl lk_sc_11__law_many) nd__law_many nc__law_many))))))))
theorem bn_11 {K : PySem.W.Frag} {f : Addr} {fd : FuncData} (F : FunD K "_law_drawn" "_law_drawn" (defArgs (top 22)) (defBody (top 22)) (defScope (top 22)) [] [] f fd) : Binds K fd ["_law_well_here", "_law_many"] [] := F.bindsN fun _ _ _ _ _ _ us hl => match us, hl with | [_, _], _ => rfl
theorem c_11 {P : Program} {w : World} {mg : Str → Option Value} {base : Heap} {W : Wd} (h : Wk P w mg base W) : Cal P w mg base 1 "_law_drawn" 2 W f__law_drawn := by
  obtain ⟨fd, F⟩ := h.def_ 11 _ rfl
  exact ⟨_, fd, ["_law_well_here", "_law_many"], rfl, fn_11 h F, h.x_11, F.kp, bn_11 F⟩
theorem fn_12 {P : Program} {w : World} {mg : Str → Option Value} {base : Heap} {W : Wd} (h : Wk P w mg base W) {fd : FuncData} (F : FunD W.K "_law_given" "_law_given" (defArgs (top 23)) (defBody (top 23)) (defScope (top 23)) [] [] (He.ga W.K "_law_given") fd) : FnG P w W.K mg base 2 (He.ga W.K "_law_given") fd ["_law_well_here", "_law_items"] (spN W 2 f__law_given) := by
  have hc_11 := c_11 h
  refine fn_ok (N := ["_law_well_here", "_law_items"]) (d := d__law_given) rfl F ⟨rfl, rfl, rfl, by decide +kernel, rfl, by decide +kernel, by decide +kernel⟩ (.refl _) fun cdv A outer s H E hr J2 => ?_
  exact (ys_one (ys_ret J2.toXJ (xe_ix J2.toXJ (xe_var (i := 1) rfl (.inl lk_sc_12__law_items) nd__law_items nc__law_items) (xe_call J2 (hc_11.mono (by decide)) hr lk_sc_12__law_drawn (xa_cons J2.toXJ (xe_var (i := 0) rfl (.inl lk_sc_12__law_well_here) nd__law_well_here nc__law_well_here) (xa_cons J2.toXJ (xe_callB J2.toXJ call_len (by rw [← J2.toXJ.K]; exact ok_len) lk_sc_12_len h.g.b_len bt_len (xa_cons J2.toXJ (xe_var (i := 1) rfl (.inl lk_sc_12__law_items) nd__law_items nc__law_items) xa_nil) nn_len nd_len) xa_nil)) nd__law_drawn))))
theorem bn_12 {K : PySem.W.Frag} {f : Addr} {fd : FuncData} (F : FunD K "_law_given" "_law_given" (defArgs (top 23)) (defBody (top 23)) (defScope (top 23)) [] [] f fd) : Binds K fd ["_law_well_here", "_law_items"] [] := F.bindsN fun _ _ _ _ _ _ us hl => match us, hl with | [_, _], _ => rfl
theorem c_12 {P : Program} {w : World} {mg : Str → Option Value} {base : Heap} {W : Wd} (h : Wk P w mg base W) : Cal P w mg base 2 "_law_given" 2 W f__law_given := by
  obtain ⟨fd, F⟩ := h.def_ 12 _ rfl
  exact ⟨_, fd, ["_law_well_here", "_law_items"], rfl, fn_12 h F, h.x_12, F.kp, bn_12 F⟩
theorem fn_13 {P : Program} {w : World} {mg : Str → Option Value} {base : Heap} {W : Wd} (h : Wk P w mg base W) {fd : FuncData} (F : FunD W.K "_law_figures" "_law_figures" (defArgs (top 24)) (defBody (top 24)) (defScope (top 24)) [] [] (He.ga W.K "_law_figures") fd) : FnG P w W.K mg base 1 (He.ga W.K "_law_figures") fd ["_law_name"] (spN W 1 f__law_figures) := by
  refine fn_ok (N := ["_law_name", "_law_found", "_law_at", "_law_letter"]) (d := d__law_figures) rfl F ⟨rfl, rfl, rfl, by decide +kernel, rfl, by decide +kernel, by decide +kernel⟩ (r_figures) fun cdv A outer s H E hr J2 => ?_
  exact (ys_cons J2.toXJ (ys_set (i := 1) J2.toXJ J2.nd rfl (.inl lk_sc_13__law_found) (xe_lst J2.toXJ (xa_cons J2.toXJ xe_int (xa_cons J2.toXJ xe_int xa_nil))) (by rfl) (.inl rfl)) (ys_cons J2.toXJ (ys_for J2 (xi_enum J2.toXJ lk_sc_13_enumerate h.g.b_enumerate (xa_cons J2.toXJ (xe_var (i := 0) rfl (.inl lk_sc_13__law_name) nd__law_name nc__law_name) xa_nil)) (yg_tp J2.cm (ygs_cons (yg_nm (i := 2) J2.nd rfl (.inl lk_sc_13__law_at) (.inl rfl)) (ygs_cons (yg_nm (i := 3) J2.nd rfl (.inl lk_sc_13__law_letter) (.inl rfl)) ygs_nil))) (ys_one (ys_sub J2.toXJ set_list ok_setL (xe_var (i := 1) rfl (.inl lk_sc_13__law_found) nd__law_found nc__law_found) (xe_bin J2.toXJ op_fdivW ok_fdiv (xe_var (i := 2) rfl (.inl lk_sc_13__law_at) nd__law_at nc__law_at) xe_int) (xe_bin J2.toXJ op_addA (by rw [← J2.toXJ.K]; exact ok_add) (xe_ix J2.toXJ (xe_var (i := 1) rfl (.inl lk_sc_13__law_found) nd__law_found nc__law_found) (xe_bin J2.toXJ op_fdivW ok_fdiv (xe_var (i := 2) rfl (.inl lk_sc_13__law_at) nd__law_at nc__law_at) xe_int)) (xe_bin J2.toXJ op_mulA ok_mul (xe_ix J2.toXJ (xe_tup J2.toXJ (xa_cons J2.toXJ xe_int (xa_cons J2.toXJ xe_int xa_nil))) (xe_bin J2.toXJ op_mod ok_mod (xe_var (i := 2) rfl (.inl lk_sc_13__law_at) nd__law_at nc__law_at) xe_int)) (xe_bin J2.toXJ op_addA (by rw [← J2.toXJ.K]; exact ok_add) (xe_met J2.toXJ PySem.F.plainAttrs_str PySem.F.slot_str_index PySem.F.type_str_index mt_sindex ty_str ok_sindex (xe_str (by kernel_rfl)) (xa_cons J2.toXJ (xe_var (i := 3) rfl (.inl lk_sc_13__law_letter) nd__law_letter nc__law_letter) xa_nil)) xe_int)))))) (ys_one (ys_ret J2.toXJ (xe_callTy J2.toXJ call_tuple_of (by rw [← J2.toXJ.K]; exact ok_tupleA) lk_sc_13_tuple h.g.b_tuple bt_tuple (xa_cons J2.toXJ (xe_var (i := 1) rfl (.inl lk_sc_13__law_found) nd__law_found nc__law_found) xa_nil) nn_tuple nd_tuple)))))
theorem bn_13 {K : PySem.W.Frag} {f : Addr} {fd : FuncData} (F : FunD K "_law_figures" "_law_figures" (defArgs (top 24)) (defBody (top 24)) (defScope (top 24)) [] [] f fd) : Binds K fd ["_law_name"] [] := F.bindsN fun _ _ _ _ _ _ us hl => match us, hl with | [_], _ => rfl
theorem c_13 {P : Program} {w : World} {mg : Str → Option Value} {base : Heap} {W : Wd} (h : Wk P w mg base W) : Cal P w mg base 1 "_law_figures" 1 W f__law_figures := by
  obtain ⟨fd, F⟩ := h.def_ 13 _ rfl
  exact ⟨_, fd, ["_law_name"], rfl, fn_13 h F, h.x_13, F.kp, bn_13 F⟩
theorem fn_14 {P : Program} {w : World} {mg : Str → Option Value} {base : Heap} {W : Wd} (h : Wk P w mg base W) {fd : FuncData} (F : FunD W.K "_law_spelled" "_law_spelled" (defArgs (top 25)) (defBody (top 25)) (defScope (top 25)) [] [] (He.ga W.K "_law_spelled") fd) : FnG P w W.K mg base 1 (He.ga W.K "_law_spelled") fd ["_law_first", "_law_second"] (spN W 2 f__law_spelled) := by
  refine fn_ok (N := ["_law_first", "_law_second", "_law_letters", "_law_name"]) (d := d__law_spelled) rfl F ⟨rfl, rfl, rfl, by decide +kernel, rfl, by decide +kernel, by decide +kernel⟩ (r_spelled) fun cdv A outer s H E hr J2 => ?_
  exact (ys_cons J2.toXJ (ys_if J2.toXJ (xw_or J2.toXJ (xt_cmp J2.toXJ op_gtA ok_cmp (xe_var (i := 0) rfl (.inl lk_sc_14__law_first) nd__law_first nc__law_first) xe_int (nomark _)) (xw_or1 (xt_cmp J2.toXJ op_gtA ok_cmp (xe_var (i := 1) rfl (.inl lk_sc_14__law_second) nd__law_second nc__law_second) xe_int (nomark _)))).pt (ys_one (ys_ret J2.toXJ xe_non)) ys_nil) (ys_cons J2.toXJ (ys_set (i := 2) J2.toXJ J2.nd rfl (.inl lk_sc_14__law_letters) (xe_str (by kernel_rfl)) (by rfl) (.inl rfl)) (ys_cons J2.toXJ (ys_set (i := 3) J2.toXJ J2.nd rfl (.inl lk_sc_14__law_name) (xe_bin J2.toXJ op_addA (by rw [← J2.toXJ.K]; exact ok_add) (xe_bin J2.toXJ op_addA (by rw [← J2.toXJ.K]; exact ok_add) (xe_bin J2.toXJ op_addA (by rw [← J2.toXJ.K]; exact ok_add) (xe_ix J2.toXJ (xe_var (i := 2) rfl (.inl lk_sc_14__law_letters) nd__law_letters nc__law_letters) (xe_bin J2.toXJ op_fdivW ok_fdiv (xe_var (i := 0) rfl (.inl lk_sc_14__law_first) nd__law_first nc__law_first) xe_int)) (xe_ix J2.toXJ (xe_var (i := 2) rfl (.inl lk_sc_14__law_letters) nd__law_letters nc__law_letters) (xe_bin J2.toXJ op_mod ok_mod (xe_var (i := 0) rfl (.inl lk_sc_14__law_first) nd__law_first nc__law_first) xe_int))) (xe_ix J2.toXJ (xe_var (i := 2) rfl (.inl lk_sc_14__law_letters) nd__law_letters nc__law_letters) (xe_bin J2.toXJ op_fdivW ok_fdiv (xe_var (i := 1) rfl (.inl lk_sc_14__law_second) nd__law_second nc__law_second) xe_int))) (xe_ix J2.toXJ (xe_var (i := 2) rfl (.inl lk_sc_14__law_letters) nd__law_letters nc__law_letters) (xe_bin J2.toXJ op_mod ok_mod (xe_var (i := 1) rfl (.inl lk_sc_14__law_second) nd__law_second nc__law_second) xe_int))) (by rfl) (.inl rfl)) (ys_one (ys_ret J2.toXJ (xe_if J2.toXJ (xw_and J2.toXJ (xt_cmp J2.toXJ (op_neA hr.units) (by rw [← J2.toXJ.K]; exact ok_ne) (xe_ix J2.toXJ (xe_var (i := 3) rfl (.inl lk_sc_14__law_name) nd__law_name nc__law_name) xe_int) (xe_str (by kernel_rfl)) (nomark _)) (xw_and1 (xt_cmp J2.toXJ (op_notInA (u65 hr)) (by rw [← J2.toXJ.K]; exact ok_notIn) (xe_str (by kernel_rfl)) (xe_met0 J2.toXJ PySem.F.plainAttrs_str PySem.F.slot_str_rstrip PySem.F.type_str_rstrip mt_rstrip ty_str ok_str0 (xe_var (i := 3) rfl (.inl lk_sc_14__law_name) nd__law_name nc__law_name)) (by with_unfolding_all rfl)))).pt (xe_met0 J2.toXJ PySem.F.plainAttrs_str PySem.F.slot_str_strip PySem.F.type_str_strip mt_strip ty_str ok_str0 (xe_var (i := 3) rfl (.inl lk_sc_14__law_name) nd__law_name nc__law_name)) xe_non))))))
theorem bn_14 {K : PySem.W.Frag} {f : Addr} {fd : FuncData} (F : FunD K "_law_spelled" "_law_spelled" (defArgs (top 25)) (defBody (top 25)) (defScope (top 25)) [] [] f fd) : Binds K fd ["_law_first", "_law_second"] [] := F.bindsN fun _ _ _ _ _ _ us hl => match us, hl with | [_, _], _ => rfl
theorem c_14 {P : Program} {w : World} {mg : Str → Option Value} {base : Heap} {W : Wd} (h : Wk P w mg base W) : Cal P w mg base 1 "_law_spelled" 2 W f__law_spelled := by
  obtain ⟨fd, F⟩ := h.def_ 14 _ rfl
  exact ⟨_, fd, ["_law_first", "_law_second"], rfl, fn_14 h F, h.x_14, F.kp, bn_14 F⟩
theorem fn_15 {P : Program} {w : World} {mg : Str → Option Value} {base : Heap} {W : Wd} (h : Wk P w mg base W) {fd : FuncData} (F : FunD W.K "_law_near" "_law_near" (defArgs (top 26)) (defBody (top 26)) (defScope (top 26)) [] [] (He.ga W.K "_law_near") fd) : FnG P w W.K mg base 3 (He.ga W.K "_law_near") fd ["_law_well_here"] (spN W 1 f__law_near) := by
  have hc_12 := c_12 h
  refine fn_ok (N := ["_law_well_here", "_law_name", "_law_cell", "_law_row"]) (d := d__law_near) rfl F ⟨rfl, rfl, rfl, by decide +kernel, rfl, by decide +kernel, by decide +kernel⟩ (.refl _) fun cdv A outer s H E hr J2 => ?_
  exact (ys_cons J2.toXJ (ys_set (i := 1) J2.toXJ J2.nd rfl (.inl lk_sc_15__law_name) (xe_call J2 (hc_12.mono (by decide)) hr lk_sc_15__law_given (xa_cons J2.toXJ (xe_var (i := 0) rfl (.inl lk_sc_15__law_well_here) nd__law_well_here nc__law_well_here) (xa_cons J2.toXJ (xe_lst J2.toXJ (xa_cons J2.toXJ (xe_str (by kernel_rfl)) (xa_cons J2.toXJ (xe_str (by kernel_rfl)) (xa_cons J2.toXJ (xe_str (by kernel_rfl)) (xa_cons J2.toXJ (xe_str (by kernel_rfl)) (xa_cons J2.toXJ (xe_str (by kernel_rfl)) (xa_cons J2.toXJ (xe_str (by kernel_rfl)) (xa_cons J2.toXJ xe_non (xa_cons J2.toXJ xe_int (xa_cons J2.toXJ (xe_tup J2.toXJ (xa_cons J2.toXJ (xe_str (by kernel_rfl)) xa_nil)) (xa_cons J2.toXJ (xe_lst J2.toXJ (xa_cons J2.toXJ (xe_str (by kernel_rfl)) xa_nil)) (xa_cons J2.toXJ (xe_str (by kernel_rfl)) (xa_cons J2.toXJ (xe_str (by kernel_rfl)) (xa_cons J2.toXJ (xe_str (by kernel_rfl)) (xa_cons J2.toXJ xe_bl xa_nil))))))))))))))) xa_nil)) nd__law_given) (by rfl) (.inl rfl)) (ys_cons J2.toXJ (ys_set (i := 2) J2.toXJ J2.nd rfl (.inl lk_sc_15__law_cell) (xe_call J2 (hc_12.mono (by decide)) hr lk_sc_15__law_given (xa_cons J2.toXJ (xe_var (i := 0) rfl (.inl lk_sc_15__law_well_here) nd__law_well_here nc__law_well_here) (xa_cons J2.toXJ (xe_lst J2.toXJ (xa_cons J2.toXJ (xe_un J2.toXJ un_neg ok_neg xe_int) (xa_cons J2.toXJ xe_int (xa_cons J2.toXJ xe_int (xa_cons J2.toXJ xe_int (xa_cons J2.toXJ xe_bl (xa_cons J2.toXJ xe_non (xa_cons J2.toXJ (xe_str (by kernel_rfl)) (xa_cons J2.toXJ (xe_tup J2.toXJ (xa_cons J2.toXJ xe_int xa_nil)) (xa_cons J2.toXJ (xe_bin J2.toXJ op_powB ok_pow xe_int xe_int) xa_nil)))))))))) xa_nil)) nd__law_given) (by rfl) (.inl rfl)) (ys_cons J2.toXJ (ys_set (i := 3) J2.toXJ J2.nd rfl (.inl lk_sc_15__law_row) (xe_call J2 (hc_12.mono (by decide)) hr lk_sc_15__law_given (xa_cons J2.toXJ (xe_var (i := 0) rfl (.inl lk_sc_15__law_well_here) nd__law_well_here nc__law_well_here) (xa_cons J2.toXJ (xe_lst J2.toXJ (xa_cons J2.toXJ (xe_tup J2.toXJ xa_nil) (xa_cons J2.toXJ (xe_tup J2.toXJ (xa_cons J2.toXJ xe_int (xa_cons J2.toXJ xe_int xa_nil))) (xa_cons J2.toXJ (xe_tup J2.toXJ (xa_cons J2.toXJ xe_int xa_nil)) (xa_cons J2.toXJ (xe_lst J2.toXJ (xa_cons J2.toXJ xe_int xa_nil)) (xa_cons J2.toXJ (xe_tup J2.toXJ (xa_cons J2.toXJ xe_bl xa_nil)) (xa_cons J2.toXJ xe_non (xa_cons J2.toXJ (xe_tup J2.toXJ (xa_cons J2.toXJ (xe_str (by kernel_rfl)) xa_nil)) (xa_cons J2.toXJ (xe_tup J2.toXJ (xa_cons J2.toXJ xe_int (xa_cons J2.toXJ (xe_un J2.toXJ un_neg ok_neg xe_int) xa_nil))) (xa_cons J2.toXJ xe_int (xa_cons J2.toXJ (xe_tup J2.toXJ (xa_cons J2.toXJ xe_int (xa_cons J2.toXJ (xe_tup J2.toXJ (xa_cons J2.toXJ xe_int xa_nil)) xa_nil))) (xa_cons J2.toXJ xe_dict0 xa_nil)))))))))))) xa_nil)) nd__law_given) (by rfl) (.inl rfl)) (ys_one (ys_ret J2.toXJ (xe_tup J2.toXJ (xa_cons J2.toXJ (xe_var (i := 1) rfl (.inl lk_sc_15__law_name) nd__law_name nc__law_name) (xa_cons J2.toXJ (xe_var (i := 2) rfl (.inl lk_sc_15__law_cell) nd__law_cell nc__law_cell) (xa_cons J2.toXJ (xe_var (i := 3) rfl (.inl lk_sc_15__law_row) nd__law_row nc__law_row) xa_nil)))))))))
theorem bn_15 {K : PySem.W.Frag} {f : Addr} {fd : FuncData} (F : FunD K "_law_near" "_law_near" (defArgs (top 26)) (defBody (top 26)) (defScope (top 26)) [] [] f fd) : Binds K fd ["_law_well_here"] [] := F.bindsN fun _ _ _ _ _ _ us hl => match us, hl with | [_], _ => rfl
theorem c_15 {P : Program} {w : World} {mg : Str → Option Value} {base : Heap} {W : Wd} (h : Wk P w mg base W) : Cal P w mg base 3 "_law_near" 1 W f__law_near := by
  obtain ⟨fd, F⟩ := h.def_ 15 _ rfl
  exact ⟨_, fd, ["_law_well_here"], rfl, fn_15 h F, h.x_15, F.kp, bn_15 F⟩
theorem fn_16 {P : Program} {w : World} {mg : Str → Option Value} {base : Heap} {W : Wd} (h : Wk P w mg base W) {fd : FuncData} (F : FunD W.K "_law_right" "_law_right" (defArgs (top 27)) (defBody (top 27)) (defScope (top 27)) [] [] (He.ga W.K "_law_right") fd) : FnG P w W.K mg base 5 (He.ga W.K "_law_right") fd ["_law_well_here"] (spN W 1 f__law_right) := by
  have hc_2 := c_2 h
  have hc_3 := c_3 h
  have hc_4 := c_4 h
  have hc_8 := c_8 h
  have hc_9 := c_9 h
  have hc_11 := c_11 h
  have hc_12 := c_12 h
  have hc_13 := c_13 h
  have hc_14 := c_14 h
  have hc_15 := c_15 h
  refine fn_ok (N := ["_law_well_here", "_law_names", "_law_turn", "_law_name", "_law_told", "_law_letters", "_law_first", "_law_second", "_law_cell", "_law_row", "_law_sign", "_law_pair"]) (d := d__law_right) rfl F ⟨rfl, rfl, rfl, by decide +kernel, rfl, by decide +kernel, by decide +kernel⟩ (.refl _) fun cdv A outer s H E hr J2 => ?_
  exact (ys_cons J2.toXJ (ys_set (i := 1) J2.toXJ J2.nd rfl (.inl lk_sc_16__law_names) (xe_lst J2.toXJ xa_nil) (by rfl) (.inl rfl)) (ys_cons J2.toXJ (ys_for J2 (xi_rng1 J2.toXJ lk_sc_16_range h.g.b_range (xa_cons J2.toXJ xe_int xa_nil)) (yg_nm (i := 2) J2.nd rfl (.inl lk_sc_16__law_turn) (.inl rfl)) (ys_cons J2.toXJ (yc_setLc (i := 5) J2 rfl lk_sc_16__law_letters (by rfl) (xi_rng1 J2.toXJ lk_sc_16_range h.g.b_range (xa_cons J2.toXJ (xe_bin J2.toXJ op_addA (by rw [← J2.toXJ.K]; exact ok_add) xe_int (xe_call J2 (hc_11.mono (by decide)) hr lk_sc_16__law_drawn (xa_cons J2.toXJ (xe_var (i := 0) rfl (.inr (.inl lk_sc_16__law_well_here)) nd__law_well_here nc__law_well_here) (xa_cons J2.toXJ xe_int xa_nil)) nd__law_drawn)) xa_nil)) (own := [("_law_sign", 10)]) (by kernel_rfl) (by rfl) (fun s H C cl fp B2 => (yg_nm (i := 10) B2.nd rfl (.inl (by kernel_rfl)) (.inr (by kernel_rfl)))) (fun s H C cl fp B2 => pts_yes) (fun s H C cl fp B2 => (xe_call B2 (hc_12.mono (by decide)) hr (gl_of (by kernel_rfl)) (xa_cons B2.toXJ (xe_var (i := 0) rfl (.inr (.inl (by kernel_rfl))) nd__law_well_here nc__law_well_here) (xa_cons B2.toXJ (xe_callTy B2.toXJ (call_listA B2.cm) (by rw [← B2.toXJ.K]; exact ok_listA) (gl_of (by kernel_rfl)) h.g.b_list bt_list (xa_cons B2.toXJ (xe_str (by kernel_rfl)) xa_nil) nn_list nd_list) xa_nil)) nd__law_given))) (ys_one (ys_expr J2.toXJ (xe_met J2.toXJ PySem.F.plainAttrs_list PySem.F.slot_list_append PySem.F.type_list_append mt_append ty_lst ok_append (xe_var (i := 1) rfl (.inl lk_sc_16__law_names) nd__law_names nc__law_names) (xa_cons J2.toXJ (xe_met J2.toXJ PySem.F.plainAttrs_str PySem.F.slot_str_join PySem.F.type_str_join mt_join ty_str (by rw [← J2.toXJ.K]; exact ok_join) (xe_str (by kernel_rfl)) (xa_cons J2.toXJ (xe_var (i := 5) rfl (.inl lk_sc_16__law_letters) nd__law_letters nc__law_letters) xa_nil)) xa_nil)))))) (ys_cons J2.toXJ (ys_for J2 (xi_val J2.toXJ (xe_var (i := 1) rfl (.inl lk_sc_16__law_names) nd__law_names nc__law_names)) (yg_nm (i := 3) J2.nd rfl (.inl lk_sc_16__law_name) (.inl rfl)) (ys_one (ys_if J2.toXJ (xw_or J2.toXJ (xt_cmp J2.toXJ (op_neA hr.units) (by rw [← J2.toXJ.K]; exact ok_ne) (xe_call J2 (hc_8.mono (by decide)) hr lk_sc_16_name_cells (xa_cons J2.toXJ (xe_var (i := 3) rfl (.inl lk_sc_16__law_name) nd__law_name nc__law_name) xa_nil) nd_name_cells) (xe_call J2 (hc_13.mono (by decide)) hr lk_sc_16__law_figures (xa_cons J2.toXJ (xe_var (i := 3) rfl (.inl lk_sc_16__law_name) nd__law_name nc__law_name) xa_nil) nd__law_figures) (nomark _)) (xw_or1 (xt_cmp J2.toXJ (op_neA hr.units) (by rw [← J2.toXJ.K]; exact ok_ne) (xe_call J2 (hc_9.mono (by decide)) hr lk_sc_16_cells_name (xa_cons J2.toXJ (xe_ix J2.toXJ (xe_call J2 (hc_8.mono (by decide)) hr lk_sc_16_name_cells (xa_cons J2.toXJ (xe_var (i := 3) rfl (.inl lk_sc_16__law_name) nd__law_name nc__law_name) xa_nil) nd_name_cells) xe_int) (xa_cons J2.toXJ (xe_ix J2.toXJ (xe_call J2 (hc_8.mono (by decide)) hr lk_sc_16_name_cells (xa_cons J2.toXJ (xe_var (i := 3) rfl (.inl lk_sc_16__law_name) nd__law_name nc__law_name) xa_nil) nd_name_cells) xe_int) xa_nil)) nd_cells_name) (xe_var (i := 3) rfl (.inl lk_sc_16__law_name) nd__law_name nc__law_name) (nomark _)))).pt (ys_one (ys_ret J2.toXJ xe_bl)) ys_nil))) (ys_cons J2.toXJ (ys_if J2.toXJ (xt_cmp J2.toXJ (op_neA hr.units) (by rw [← J2.toXJ.K]; exact ok_ne) (xe_callB J2.toXJ call_sortA (by rw [← J2.toXJ.K]; exact ok_sorted) lk_sc_16_sorted h.g.b_sorted bt_sorted (xa_cons J2.toXJ (xe_var (i := 1) rfl (.inl lk_sc_16__law_names) nd__law_names nc__law_names) xa_nil) nn_sorted nd_sorted) (xc_lc J2  (xi_val J2.toXJ (xe_callB J2.toXJ call_sortA (by rw [← J2.toXJ.K]; exact ok_sorted) lk_sc_16_sorted h.g.b_sorted bt_sorted (xa_cons J2.toXJ (xc_lc J2  (xi_val J2.toXJ (xe_var (i := 1) rfl (.inl lk_sc_16__law_names) nd__law_names nc__law_names)) (own := [("_law_name", 3)]) (by kernel_rfl) (by rfl) (fun s H C cl fp B2 => (yg_nm (i := 3) B2.nd rfl (.inl (by kernel_rfl)) (.inr (by kernel_rfl)))) (fun s H C cl fp B2 => pts_yes) (fun s H C cl fp B2 => (xe_call B2 (hc_8.mono (by decide)) hr (gl_of (by kernel_rfl)) (xa_cons B2.toXJ (xe_var (i := 3) rfl (.inl (by kernel_rfl)) nd__law_name nc__law_name) xa_nil) nd_name_cells))) xa_nil) nn_sorted nd_sorted)) (own := [("_law_pair", 11)]) (by kernel_rfl) (by rfl) (fun s H C cl fp B2 => (yg_nm (i := 11) B2.nd rfl (.inl (by kernel_rfl)) (.inr (by kernel_rfl)))) (fun s H C cl fp B2 => pts_yes) (fun s H C cl fp B2 => (xe_call B2 (hc_9.mono (by decide)) hr (gl_of (by kernel_rfl)) (xa_cons B2.toXJ (xe_ix B2.toXJ (xe_var (i := 11) rfl (.inl (by kernel_rfl)) nd__law_pair nc__law_pair) xe_int) (xa_cons B2.toXJ (xe_ix B2.toXJ (xe_var (i := 11) rfl (.inl (by kernel_rfl)) nd__law_pair nc__law_pair) xe_int) xa_nil)) nd_cells_name))) (nomark _)) (ys_one (ys_ret J2.toXJ xe_bl)) ys_nil) (ys_cons J2.toXJ (ys_for J2 (xi_rng1 J2.toXJ lk_sc_16_range h.g.b_range (xa_cons J2.toXJ xe_int xa_nil)) (yg_nm (i := 2) J2.nd rfl (.inl lk_sc_16__law_turn) (.inl rfl)) (ys_cons J2.toXJ (ys_set (i := 6) J2.toXJ J2.nd rfl (.inl lk_sc_16__law_first) (xe_call J2 (hc_12.mono (by decide)) hr lk_sc_16__law_given (xa_cons J2.toXJ (xe_var (i := 0) rfl (.inr (.inl lk_sc_16__law_well_here)) nd__law_well_here nc__law_well_here) (xa_cons J2.toXJ (xe_lst J2.toXJ (xa_cons J2.toXJ xe_int (xa_cons J2.toXJ xe_int (xa_cons J2.toXJ xe_int (xa_cons J2.toXJ xe_int (xa_cons J2.toXJ xe_int (xa_cons J2.toXJ xe_int (xa_cons J2.toXJ (xe_call J2 (hc_11.mono (by decide)) hr lk_sc_16__law_drawn (xa_cons J2.toXJ (xe_var (i := 0) rfl (.inr (.inl lk_sc_16__law_well_here)) nd__law_well_here nc__law_well_here) (xa_cons J2.toXJ xe_int xa_nil)) nd__law_drawn) (xa_cons J2.toXJ (xe_bin J2.toXJ op_mulA ok_mul xe_int (xe_call J2 (hc_11.mono (by decide)) hr lk_sc_16__law_drawn (xa_cons J2.toXJ (xe_var (i := 0) rfl (.inr (.inl lk_sc_16__law_well_here)) nd__law_well_here nc__law_well_here) (xa_cons J2.toXJ xe_int xa_nil)) nd__law_drawn)) xa_nil))))))))) xa_nil)) nd__law_given) (by rfl) (.inl rfl)) (ys_cons J2.toXJ (ys_set (i := 7) J2.toXJ J2.nd rfl (.inl lk_sc_16__law_second) (xe_call J2 (hc_12.mono (by decide)) hr lk_sc_16__law_given (xa_cons J2.toXJ (xe_var (i := 0) rfl (.inr (.inl lk_sc_16__law_well_here)) nd__law_well_here nc__law_well_here) (xa_cons J2.toXJ (xe_lst J2.toXJ (xa_cons J2.toXJ xe_int (xa_cons J2.toXJ xe_int (xa_cons J2.toXJ xe_int (xa_cons J2.toXJ xe_int (xa_cons J2.toXJ xe_int (xa_cons J2.toXJ xe_int (xa_cons J2.toXJ xe_int (xa_cons J2.toXJ (xe_call J2 (hc_11.mono (by decide)) hr lk_sc_16__law_drawn (xa_cons J2.toXJ (xe_var (i := 0) rfl (.inr (.inl lk_sc_16__law_well_here)) nd__law_well_here nc__law_well_here) (xa_cons J2.toXJ xe_int xa_nil)) nd__law_drawn) (xa_cons J2.toXJ (xe_bin J2.toXJ op_mulA ok_mul xe_int (xe_call J2 (hc_11.mono (by decide)) hr lk_sc_16__law_drawn (xa_cons J2.toXJ (xe_var (i := 0) rfl (.inr (.inl lk_sc_16__law_well_here)) nd__law_well_here nc__law_well_here) (xa_cons J2.toXJ xe_int xa_nil)) nd__law_drawn)) xa_nil)))))))))) xa_nil)) nd__law_given) (by rfl) (.inl rfl)) (ys_one (ys_if J2.toXJ (xt_cmp J2.toXJ (op_neA hr.units) (by rw [← J2.toXJ.K]; exact ok_ne) (xe_call J2 (hc_9.mono (by decide)) hr lk_sc_16_cells_name (xa_cons J2.toXJ (xe_var (i := 6) rfl (.inl lk_sc_16__law_first) nd__law_first nc__law_first) (xa_cons J2.toXJ (xe_var (i := 7) rfl (.inl lk_sc_16__law_second) nd__law_second nc__law_second) xa_nil)) nd_cells_name) (xe_call J2 (hc_14.mono (by decide)) hr lk_sc_16__law_spelled (xa_cons J2.toXJ (xe_var (i := 6) rfl (.inl lk_sc_16__law_first) nd__law_first nc__law_first) (xa_cons J2.toXJ (xe_var (i := 7) rfl (.inl lk_sc_16__law_second) nd__law_second nc__law_second) xa_nil)) nd__law_spelled) (nomark _)) (ys_one (ys_ret J2.toXJ xe_bl)) ys_nil))))) (ys_cons J2.toXJ (ys_unp J2.toXJ (xe_call J2 (hc_15.mono (by decide)) hr lk_sc_16__law_near (xa_cons J2.toXJ (xe_var (i := 0) rfl (.inr (.inl lk_sc_16__law_well_here)) nd__law_well_here nc__law_well_here) xa_nil) nd__law_near) (yg_tp J2.cm (ygs_cons (yg_nm (i := 3) J2.nd rfl (.inl lk_sc_16__law_name) (.inl rfl)) (ygs_cons (yg_nm (i := 8) J2.nd rfl (.inl lk_sc_16__law_cell) (.inl rfl)) (ygs_cons (yg_nm (i := 9) J2.nd rfl (.inl lk_sc_16__law_row) (.inl rfl)) ygs_nil))))) (ys_cons J2.toXJ (ys_set (i := 4) J2.toXJ J2.nd rfl (.inl lk_sc_16__law_told) (xe_lst J2.toXJ (xa_cons J2.toXJ (xe_call J2 (hc_4.mono (by decide)) hr lk_sc_16_is_name (xa_cons J2.toXJ (xe_var (i := 3) rfl (.inl lk_sc_16__law_name) nd__law_name nc__law_name) xa_nil) nd_is_name) (xa_cons J2.toXJ (xe_call J2 (hc_2.mono (by decide)) hr lk_sc_16_is_cell (xa_cons J2.toXJ (xe_var (i := 8) rfl (.inl lk_sc_16__law_cell) nd__law_cell nc__law_cell) xa_nil) nd_is_cell) (xa_cons J2.toXJ (xe_call J2 (hc_3.mono (by decide)) hr lk_sc_16_is_cells (xa_cons J2.toXJ (xe_var (i := 9) rfl (.inl lk_sc_16__law_row) nd__law_row nc__law_row) xa_nil) nd_is_cells) xa_nil)))) (by rfl) (.inl rfl)) (ys_one (ys_ret J2.toXJ (xe_cmp J2.toXJ (op_eqA hr.units) (by rw [← J2.toXJ.K]; exact ok_eq) (xe_var (i := 4) rfl (.inl lk_sc_16__law_told) nd__law_told nc__law_told) (xe_lst J2.toXJ (xa_cons J2.toXJ (xe_cmp J2.toXJ (op_inK (u65 hr)) (by rw [← J2.toXJ.K]; exact ok_inK) (xe_var (i := 3) rfl (.inl lk_sc_16__law_name) nd__law_name nc__law_name) (xe_tup J2.toXJ (xa_cons J2.toXJ (xe_str (by kernel_rfl)) (xa_cons J2.toXJ (xe_str (by kernel_rfl)) (xa_cons J2.toXJ (xe_str (by kernel_rfl)) xa_nil)))) (by with_unfolding_all rfl)) (xa_cons J2.toXJ (xe_cmp J2.toXJ (op_inK (u65 hr)) (by rw [← J2.toXJ.K]; exact ok_inK) (xe_callB J2.toXJ (call_reprA J2.gd (u66 hr)) (by rw [← J2.toXJ.K]; exact ok_repr) lk_sc_16_repr h.g.b_repr bt_repr (xa_cons J2.toXJ (xe_var (i := 8) rfl (.inl lk_sc_16__law_cell) nd__law_cell nc__law_cell) xa_nil) nn_repr nd_repr) (xe_tup J2.toXJ (xa_cons J2.toXJ (xe_str (by kernel_rfl)) (xa_cons J2.toXJ (xe_str (by kernel_rfl)) xa_nil))) (by with_unfolding_all rfl)) (xa_cons J2.toXJ (xe_cmp J2.toXJ (op_inK (u65 hr)) (by rw [← J2.toXJ.K]; exact ok_inK) (xe_var (i := 9) rfl (.inl lk_sc_16__law_row) nd__law_row nc__law_row) (xe_tup J2.toXJ (xa_cons J2.toXJ (xe_tup J2.toXJ xa_nil) (xa_cons J2.toXJ (xe_tup J2.toXJ (xa_cons J2.toXJ xe_int (xa_cons J2.toXJ xe_int xa_nil))) xa_nil))) (by with_unfolding_all rfl)) xa_nil)))) (nomark _)))))))))))
theorem bn_16 {K : PySem.W.Frag} {f : Addr} {fd : FuncData} (F : FunD K "_law_right" "_law_right" (defArgs (top 27)) (defBody (top 27)) (defScope (top 27)) [] [] f fd) : Binds K fd ["_law_well_here"] [] := F.bindsN fun _ _ _ _ _ _ us hl => match us, hl with | [_], _ => rfl
theorem c_16 {P : Program} {w : World} {mg : Str → Option Value} {base : Heap} {W : Wd} (h : Wk P w mg base W) : Cal P w mg base 5 "_law_right" 1 W f__law_right := by
  obtain ⟨fd, F⟩ := h.def_ 16 _ rfl
  exact ⟨_, fd, ["_law_well_here"], rfl, fn_16 h F, h.x_16, F.kp, bn_16 F⟩
theorem fn_17 {P : Program} {w : World} {mg : Str → Option Value} {base : Heap} {W : Wd} (h : Wk P w mg base W) {fd : FuncData} (F : FunD W.K "law" "law" (defArgs (top 28)) (defBody (top 28)) (defScope (top 28)) [] [] (He.ga W.K "law") fd) : FnG P w W.K mg base 6 (He.ga W.K "law") fd ["_law_script"] (spN W 1 f_law) := by
  have hc_8 := c_8 h
  have hc_9 := c_9 h
  have hc_10 := c_10 h
  have hc_16 := c_16 h
  refine fn_ok (N := ["_law_script", "_law_spot", "_law_told"]) (d := d_law) rfl F ⟨rfl, rfl, rfl, by decide +kernel, rfl, by decide +kernel, by decide +kernel⟩ (.refl _) fun cdv A outer s H E hr J2 => ?_
  exact (ys_cons J2.toXJ (ys_for J2 (xi_rng1 J2.toXJ lk_sc_17_range h.g.b_range (xa_cons J2.toXJ (xe_callB J2.toXJ (CallR.or (call_max2 J2.cm) (cr_max J2.cm)) (by rw [← J2.toXJ.K]; exact ok_max) lk_sc_17_max h.g.b_max bt_max (xa_cons J2.toXJ xe_int (xa_cons J2.toXJ (xe_callB J2.toXJ (CallR.or (call_min2 J2.cm) (cr_min J2.cm)) (by rw [← J2.toXJ.K]; exact ok_min) lk_sc_17_min h.g.b_min bt_min (xa_cons J2.toXJ xe_int (xa_cons J2.toXJ (xe_callB J2.toXJ call_len (by rw [← J2.toXJ.K]; exact ok_len) lk_sc_17_len h.g.b_len bt_len (xa_cons J2.toXJ (xe_var (i := 0) rfl (.inl lk_sc_17__law_script) nd__law_script nc__law_script) xa_nil) nn_len nd_len) xa_nil)) nn_min nd_min) xa_nil)) nn_max nd_max) xa_nil)) (yg_nm (i := 1) J2.nd rfl (.inl lk_sc_17__law_spot) (.inl rfl)) (ys_one (ys_if J2.toXJ (xt_not J2.toXJ (xt_val J2.toXJ (xe_call J2 (hc_16.mono (by decide)) hr lk_sc_17__law_right (xa_cons J2.toXJ (xe_call J2 (hc_10.mono (by decide)) hr lk_sc_17__law_well (xa_cons J2.toXJ (xe_var (i := 0) rfl (.inl lk_sc_17__law_script) nd__law_script nc__law_script) (xa_cons J2.toXJ (xe_var (i := 1) rfl (.inl lk_sc_17__law_spot) nd__law_spot nc__law_spot) xa_nil)) nd__law_well) xa_nil) nd__law_right))) (ys_one (ys_ret J2.toXJ xe_bl)) ys_nil))) (ys_cons J2.toXJ (ys_set (i := 2) J2.toXJ J2.nd rfl (.inl lk_sc_17__law_told) (xe_lst J2.toXJ (xa_cons J2.toXJ (xe_call J2 (hc_8.mono (by decide)) hr lk_sc_17_name_cells (xa_cons J2.toXJ (xe_str (by kernel_rfl)) xa_nil) nd_name_cells) (xa_cons J2.toXJ (xe_call J2 (hc_8.mono (by decide)) hr lk_sc_17_name_cells (xa_cons J2.toXJ (xe_str (by kernel_rfl)) xa_nil) nd_name_cells) (xa_cons J2.toXJ (xe_call J2 (hc_8.mono (by decide)) hr lk_sc_17_name_cells (xa_cons J2.toXJ (xe_str (by kernel_rfl)) xa_nil) nd_name_cells) (xa_cons J2.toXJ (xe_call J2 (hc_8.mono (by decide)) hr lk_sc_17_name_cells (xa_cons J2.toXJ (xe_str (by kernel_rfl)) xa_nil) nd_name_cells) (xa_cons J2.toXJ (xe_call J2 (hc_9.mono (by decide)) hr lk_sc_17_cells_name (xa_cons J2.toXJ xe_int (xa_cons J2.toXJ xe_int xa_nil)) nd_cells_name) xa_nil)))))) (by rfl) (.inl rfl)) (ys_cons J2.toXJ (ys_set (i := 2) J2.toXJ J2.nd rfl (.inl lk_sc_17__law_told) (xe_bin J2.toXJ op_addA (by rw [← J2.toXJ.K]; exact ok_add) (xe_var (i := 2) rfl (.inl lk_sc_17__law_told) nd__law_told nc__law_told) (xe_lst J2.toXJ (xa_cons J2.toXJ (xe_call J2 (hc_9.mono (by decide)) hr lk_sc_17_cells_name (xa_cons J2.toXJ xe_int (xa_cons J2.toXJ xe_int xa_nil)) nd_cells_name) xa_nil))) (by rfl) (.inl rfl)) (ys_cons J2.toXJ (ys_if J2.toXJ (xt_cmp J2.toXJ (op_neA hr.units) (by rw [← J2.toXJ.K]; exact ok_ne) (xe_var (i := 2) rfl (.inl lk_sc_17__law_told) nd__law_told nc__law_told) (xe_lst J2.toXJ (xa_cons J2.toXJ (xe_tup J2.toXJ (xa_cons J2.toXJ xe_int (xa_cons J2.toXJ xe_int xa_nil))) (xa_cons J2.toXJ (xe_tup J2.toXJ (xa_cons J2.toXJ xe_int (xa_cons J2.toXJ xe_int xa_nil))) (xa_cons J2.toXJ (xe_tup J2.toXJ (xa_cons J2.toXJ xe_int (xa_cons J2.toXJ xe_int xa_nil))) (xa_cons J2.toXJ (xe_tup J2.toXJ (xa_cons J2.toXJ xe_int (xa_cons J2.toXJ xe_int xa_nil))) (xa_cons J2.toXJ xe_non (xa_cons J2.toXJ xe_non xa_nil))))))) (nomark _)) (ys_one (ys_ret J2.toXJ xe_bl)) ys_nil) (ys_one (ys_ret J2.toXJ (xe_cmp J2.toXJ (op_eqA hr.units) (by rw [← J2.toXJ.K]; exact ok_eq) (xe_tup J2.toXJ (xa_cons J2.toXJ (xe_gint lk_sc_17_PRIME h.g.PRIME nd_PRIME) (xa_cons J2.toXJ (xe_gint lk_sc_17_MAX_CELL h.g.MAX_CELL nd_MAX_CELL) (xa_cons J2.toXJ (xe_gint lk_sc_17_MAX_NAME h.g.MAX_NAME nd_MAX_NAME) xa_nil)))) (xe_tup J2.toXJ (xa_cons J2.toXJ xe_int (xa_cons J2.toXJ xe_int (xa_cons J2.toXJ xe_int xa_nil)))) (nomark _))))))))
theorem bn_17 {K : PySem.W.Frag} {f : Addr} {fd : FuncData} (F : FunD K "law" "law" (defArgs (top 28)) (defBody (top 28)) (defScope (top 28)) [] [] f fd) : Binds K fd ["_law_script"] [] := F.bindsN fun _ _ _ _ _ _ us hl => match us, hl with | [_], _ => rfl
theorem c_17 {P : Program} {w : World} {mg : Str → Option Value} {base : Heap} {W : Wd} (h : Wk P w mg base W) : Cal P w mg base 6 "law" 1 W f_law := by
  obtain ⟨fd, F⟩ := h.def_ 17 _ rfl
  exact ⟨_, fd, ["_law_script"], rfl, fn_17 h F, h.x_17, F.kp, bn_17 F⟩
abbrev R : PySem.W.OpenRow := PySem.W.OpenLaw.row PySem.Challenge.rw_stillread_k01_whole_names_and_their_cell
def ex (_ : PySem.W.Frag) : Bool := true
abbrev hk : PySem.W.Hook := He.hookX 4 fa fn [] [] ex
def ob (s : PySem.W.SharedT) : He.AlX := He.obsX 4 fa fn [] [] ex (HandSHeadRun.getT s)
theorem ob_eq (s : PySem.W.SharedT) : ob s = hk.obs s.abs := He.obsX_eq (HandSHeadRun.getT_eq s)
theorem run (w : World) : HandSHeadRun.RunEq R (PySem.W.view R.prog [28]) hk ob 2000 ["__name__", "StillError", "InvalidName", "InvalidNumber", "PRIME", "MAX_CELL", "MAX_NAME", "FIGURES", "LETTERS", "is_whole", "is_within", "is_cell", "is_cells", "is_name", "require_name", "cells_in", "name_in", "name_cells", "cells_name", "_law_well", "_law_drawn", "_law_given", "_law_figures", "_law_spelled", "_law_near", "_law_right"] w := by
  intro os
  kernel_rfl
theorem facts (PL : Plain f_law) {w : World} {K : PySem.W.Frag} {h : Heap} {mg : Str → Option Value} {f : Addr} (X : K.In h) (G : h.Ns mainGlobals mg) (c : He.SaysX fa fn [] [] ex w h K) (hf : mg ("law" : Str) = some (.ref f)) : LawG PySem.Challenge.rw_stillread_k01_whole_names_and_their_cell w K 6 63 "_law_script" mg f h := by
  have d := c.t.d
  have g : Gs mg := ⟨He.free_ok X G (d.fact 18 (f := .free "abs")), He.free_ok X G (d.fact 19 (f := .free "all")), He.free_ok X G (d.fact 20 (f := .free "bool")), He.free_ok X G (d.fact 21 (f := .free "enumerate")), He.free_ok X G (d.fact 22 (f := .free "int")), He.free_ok X G (d.fact 23 (f := .free "isinstance")), He.free_ok X G (d.fact 24 (f := .free "len")), He.free_ok X G (d.fact 25 (f := .free "list")), He.free_ok X G (d.fact 26 (f := .free "max")), He.free_ok X G (d.fact 27 (f := .free "min")), He.free_ok X G (d.fact 28 (f := .free "range")), He.free_ok X G (d.fact 29 (f := .free "repr")), He.free_ok X G (d.fact 30 (f := .free "sorted")), He.free_ok X G (d.fact 31 (f := .free "str")), He.free_ok X G (d.fact 32 (f := .free "sum")), He.free_ok X G (d.fact 33 (f := .free "tuple")), He.int_ok X G (d.fact 34), He.str_ok X G (d.fact 35), He.int_ok X G (d.fact 36), He.int_ok X G (d.fact 37), He.int_ok X G (d.fact 38)⟩
  have k : ∀ base, Wk (PySem.Challenge.rw_stillread_k01_whole_names_and_their_cell).prog w mg base (W0 K) := fun base => ⟨g, fun i d0 hi => d.def_ i hi, He.glo_ok X G (d.fact 0 (f := .glo "is_whole")), He.glo_ok X G (d.fact 1 (f := .glo "is_within")), He.glo_ok X G (d.fact 2 (f := .glo "is_cell")), He.glo_ok X G (d.fact 3 (f := .glo "is_cells")), He.glo_ok X G (d.fact 4 (f := .glo "is_name")), He.glo_ok X G (d.fact 5 (f := .glo "require_name")), He.glo_ok X G (d.fact 6 (f := .glo "cells_in")), He.glo_ok X G (d.fact 7 (f := .glo "name_in")), He.glo_ok X G (d.fact 8 (f := .glo "name_cells")), He.glo_ok X G (d.fact 9 (f := .glo "cells_name")), He.glo_ok X G (d.fact 10 (f := .glo "_law_well")), He.glo_ok X G (d.fact 11 (f := .glo "_law_drawn")), He.glo_ok X G (d.fact 12 (f := .glo "_law_given")), He.glo_ok X G (d.fact 13 (f := .glo "_law_figures")), He.glo_ok X G (d.fact 14 (f := .glo "_law_spelled")), He.glo_ok X G (d.fact 15 (f := .glo "_law_near")), He.glo_ok X G (d.fact 16 (f := .glo "_law_right")), He.glo_ok X G (d.fact 17 (f := .glo "law"))⟩
  obtain ⟨fd, F⟩ := d.def_ 17 (d := dD 28 "law")
  have e := hf.symm.trans (k h).x_17
  cases e
  exact lawG0 PL (fun s v => F.bindsA (ps := ["_law_script"]) (fun _ _ _ _ _ _ us hl => match us, hl with | [_], _ => rfl) s [v] rfl) fun base _ _ => fn_17 (k base) F

end K01
open PySem PySem.W PySem.Calls PyProof.Rows
theorem PySem.Challenge.cw_stillread_k01_whole_names_and_their_cell_holds : PySem.Challenge.rw_stillread_k01_whole_names_and_their_cell.Holds := by
  w_on; o_law
  refine HandSHeadRun.head_any (r := OpenLaw.row PySem.Challenge.rw_stillread_k01_whole_names_and_their_cell) (q := view (OpenLaw.row PySem.Challenge.rw_stillread_k01_whole_names_and_their_cell).prog [28]) (H := K01.hk) (ob := K01.ob) (M := 2000) (loose := ["__name__", "StillError", "InvalidName", "InvalidNumber", "PRIME", "MAX_CELL", "MAX_NAME", "FIGURES", "LETTERS", "is_whole", "is_within", "is_cell", "is_cells", "is_name", "require_name", "cells_in", "name_in", "name_cells", "cells_name", "_law_well", "_law_drawn", "_law_given", "_law_figures", "_law_spelled", "_law_near", "_law_right"]) (d := HandSHeadRun.topDef (OpenLaw.row PySem.Challenge.rw_stillread_k01_whole_names_and_their_cell).prog 28) (kwd := []) K01.ob_eq
    (by kernel_rfl) (fun s => by kernel_rfl) K01.run (by kernel_rfl) (by kernel_rfl) (by kernel_rfl) (by rfl) (by first | assumption | decide +kernel) (by decide +kernel) ⟨rfl, rfl, rfl, rfl, rfl, by decide +kernel⟩ ?hw ?hc
  case hw => w_witness2
  case hc =>
    refine Mi.walk_G (l := PySem.Challenge.rw_stillread_k01_whole_names_and_their_cell) (n := 63) (k := 6) (x := "_law_script") rfl (by decide) (by kernel_rfl) ⟨rfl, by decide, by decide⟩ ?F
    intro w mg fa h Y G hmg0
    obtain ⟨K, KX, c⟩ := Y
    have hmg : mg ("law" : PySem.Str) = some (.ref fa) := by
      have e : (HandSHeadRun.topDef (OpenLaw.row PySem.Challenge.rw_stillread_k01_whole_names_and_their_cell).prog 28).name = ("law" : PySem.Str) := by kernel_rfl
      rw [← e]
      exact hmg0
    exact ⟨K, KX, K01.facts K01.plain KX G c hmg⟩
end
