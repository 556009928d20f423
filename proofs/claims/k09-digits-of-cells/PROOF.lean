import PyProof.Rows.All
import Wide.All
import OpenK.AllK
import Wide.FinOn
import HandS.ForMost
import HandS.Exc
import HandS.TryMany
import HandS.Lambda
import HandS.CallSlots
import HandS.CallLocal
import HandS.Deep
import HandS.TupAny
import HandS.Wide
import HandS.Codes
import HandS.IsInst
import HandS.WordsDict
import HandS.StrMore
import HandS.Replace
import HandS.TupMul
import PyProof.StrBlock2
import HandS.Flow
import HandS.ExcOwn
import HandS.Iter
import KE.GoesNew
import KE.GoesMore
import HandS.Defaults
import HandS.EndTab
import HandS.HeadWalk
import HandS.RaiseMore
import HandS.SortInts
import HandS.SortRule
import HandS.Sort
import HandS.TupSets
import HandS.FStr
import HandS.Zip
import HandS.Dict
import Wide.Txt
import HandS.More
import HandS.Style
import PyProof.FString3
import PyProof.SliceStr2
import PyProof.Rows.StrIntSpec
import HandS.HeadHook4
import HandS.Head2
import PySem.Challenge.RW_stillread_k09_whole_digits_of_cells
set_option Elab.async false
set_option linter.all false
section
set_option maxRecDepth 100000
set_option maxHeartbeats 4000000
/-! MiCore: pure values, a store, results; their relation to the layer's abstract heap; readings of combinators. -/
namespace Mi
open PySem PySem.Spec PyProof.Rows L2

/-! ### pure values -/
/-- a value by what it is: tuples whole, lists and dicts by their place in the store, defs by a number -/
inductive PV where
  | non | bl (b : Bool) | int (i : Int) | str (x : List Nat) | tup (xs : List PV) | ref (n : Nat) | fn (f : Nat) | thk
instance : Inhabited PV := ⟨.non⟩
/-- what stands in the store -/
inductive SO where
  | lst (xs : List PV)
  | dct (kvs : List (Key × PV))
  | fz (xs : List PV)
abbrev Sto := List SO
/-- an exception: its class's number, its own field -/
structure Ex where
  cls : Nat
  fld : Option (Str × PV)
inductive Res (α : Type) where
  | ok (a : α) (st : Sto)
  | exc (e : Ex) (st : Sto)
  | bad
abbrev Env := List (Option PV)
inductive RS where
  | nx (env : Env) (st : Sto)
  | rt (v : PV) (st : Sto)
  | bk (env : Env) (st : Sto)
  | ct (env : Env) (st : Sto)
  | exc (e : Ex) (env : Env) (st : Sto)
  | bad
abbrev Th := Sto → Res PV
/-- what a piece of syntax does -/
abbrev Dn (α : Type) := Th → Env → Sto → Res α
abbrev DE := Dn PV
abbrev DB := Dn Bool
abbrev DL := Dn (List PV)
abbrev DS := Th → Env → Sto → RS
def Res.bind {α β : Type} : Res α → (α → Sto → Res β) → Res β
  | .ok a st, f => f a st
  | .exc e st, _ => .exc e st
  | .bad, _ => .bad

/-! ### the relation -/
structure Wd where
  K : PySem.W.Frag
  fa : Nat → Option Addr
  ca : Nat → Option Value
  th : Addr
  T : List (Addr × Str)
mutual
def RV (W : Wd) (H : Hp) (ρ : Nat → Addr) (n : Nat) : PV → V → Prop
  | .non, x => x = .non
  | .bl b, x => x = .bl b
  | .int i, x => x = .int i
  | .str s, x => x = .str ⟨s.toArray⟩
  | .tup xs, x => ∃ a vs, x = .ref a ∧ SqT W.K H a vs ∧ RVs W H ρ n xs vs
  | .ref k, x => k < n ∧ x = .ref (ρ k)
  | .fn f, x => ∃ a, W.fa f = some a ∧ x = .ref a
  | .thk, x => x = .ref W.th
def RVs (W : Wd) (H : Hp) (ρ : Nat → Addr) (n : Nat) : List PV → List V → Prop
  | [], vs => vs = []
  | p :: ps, vs => ∃ v r, vs = v :: r ∧ RV W H ρ n p v ∧ RVs W H ρ n ps r
end
/-- tuples and what is locked stay -/
structure HX (H H' : Hp) : Prop where
  tup : ∀ b xs, H b = some (.tup xs) → H' b = some (.tup xs)
  frz : ∀ b o u, H b = some (.frz o u) → H' b = some (.frz o u)
theorem HX.refl (H : Hp) : HX H H := ⟨fun _ _ h => h, fun _ _ _ h => h⟩
theorem HX.trans {H H1 H2 : Hp} (a : HX H H1) (b : HX H1 H2) : HX H H2 := ⟨fun c xs h => b.tup c xs (a.tup c xs h), fun c o u h => b.frz c o u (a.frz c o u h)⟩
theorem HX.sqT {K : PySem.W.Frag} {H H' : Hp} (x : HX H H') {a : Addr} {vs : List V} (h : SqT K H a vs) : SqT K H' a vs := by
  rcases h with (h | ⟨o, h⟩) | h
  · exact .inl (.inl (x.tup _ _ h))
  · exact .inl (.inr ⟨o, x.frz _ _ _ h⟩)
  · exact .inr h
theorem HX.new {H : Hp} {p : Addr} {o : HO} (h : H p = none) : HX H (upd H p o) :=
  ⟨fun b xs e => by rw [upd_ne (ne_of_none e h)]; exact e, fun b ob u e => by rw [upd_ne (ne_of_none e h)]; exact e⟩
/-- an object that is written: neither a tuple nor locked -/
theorem HX.mut {H : Hp} {p : Addr} {o u : HO} (h : H p = some u) (h1 : ∀ xs, u ≠ .tup xs) (h2 : ∀ ob w, u ≠ .frz ob w) : HX H (upd H p o) :=
  ⟨fun b xs e => by rw [upd_ne (ne_of e h (fun z => h1 xs z.symm))]; exact e, fun b ob w e => by rw [upd_ne (ne_of e h (fun z => h2 ob w z.symm))]; exact e⟩
def Agr (n : Nat) (ρ ρ' : Nat → Addr) : Prop := ∀ i, i < n → ρ' i = ρ i
theorem Agr.refl (n : Nat) (ρ : Nat → Addr) : Agr n ρ ρ := fun _ _ => rfl

section
variable {W : Wd} {H H' : Hp} {ρ ρ' : Nat → Addr} {n n' : Nat}
mutual
theorem RV.mono (x : HX H H') (ag : Agr n ρ ρ') (le : n ≤ n') : ∀ (p : PV) (v : V), RV W H ρ n p v → RV W H' ρ' n' p v
  | .non, _, h => h
  | .bl _, _, h => h
  | .int _, _, h => h
  | .str _, _, h => h
  | .tup xs, _, ⟨a, vs, e, s, r⟩ => ⟨a, vs, e, x.sqT s, RVs.mono x ag le xs vs r⟩
  | .ref k, _, ⟨l, e⟩ => ⟨Nat.lt_of_lt_of_le l le, by rw [ag k l]; exact e⟩
  | .fn _, _, h => h
  | .thk, _, h => h
theorem RVs.mono (x : HX H H') (ag : Agr n ρ ρ') (le : n ≤ n') : ∀ (ps : List PV) (vs : List V), RVs W H ρ n ps vs → RVs W H' ρ' n' ps vs
  | [], _, h => h
  | p :: ps, _, ⟨v, r, e, h, t⟩ => ⟨v, r, e, RV.mono x ag le p v h, RVs.mono x ag le ps r t⟩
end
theorem RVs.length : ∀ {ps : List PV} {vs : List V}, RVs W H ρ n ps vs → ps.length = vs.length
  | [], _, h => by
    have h : _ = [] := h
    rw [h] <;> rfl
  | _ :: ps, _, ⟨v, r, e, _, t⟩ => by rw [e, List.length_cons, List.length_cons, RVs.length t]
theorem RVs.get : ∀ {ps : List PV} {vs : List V} {i : Nat} {p : PV}, RVs W H ρ n ps vs → ps[i]? = some p → ∃ v, vs[i]? = some v ∧ RV W H ρ n p v
  | [], _, _, _, _, e => by simp at e
  | _ :: _, _, 0, _, ⟨v, r, e1, h, t⟩, e => by
    simp at e
    subst e e1
    exact ⟨v, rfl, h⟩
  | _ :: _, _, i + 1, _, ⟨v, r, e1, h, t⟩, e => by
    subst e1
    obtain ⟨v', h1, h2⟩ := RVs.get (i := i) t (by simpa using e)
    exact ⟨v', by simpa using h1, h2⟩
theorem RVs.set {p : PV} {v : V} (hp : RV W H ρ n p v) : ∀ {ps : List PV} {vs : List V} (i : Nat), RVs W H ρ n ps vs → RVs W H ρ n (ps.set i p) (vs.set i v)
  | [], _, _, h => by
    have h : _ = [] := h
    subst h
    exact rfl
  | _ :: _, _, 0, ⟨w, r, e, h, t⟩ => by
    subst e
    exact ⟨v, r, rfl, hp, t⟩
  | _ :: _, _, i + 1, ⟨w, r, e, h, t⟩ => by
    subst e
    exact ⟨w, _, rfl, h, RVs.set hp i t⟩
theorem RVs.append : ∀ {ps qs : List PV} {vs us : List V}, RVs W H ρ n ps vs → RVs W H ρ n qs us → RVs W H ρ n (ps ++ qs) (vs ++ us)
  | [], _, _, _, h, t => by
    have h : _ = [] := h
    subst h
    exact t
  | _ :: _, _, _, _, ⟨w, r, e, h, t⟩, q => by
    subst e
    exact ⟨w, _, rfl, h, RVs.append t q⟩
theorem RVs.take : ∀ {ps : List PV} {vs : List V} (k : Nat), RVs W H ρ n ps vs → RVs W H ρ n (ps.take k) (vs.take k)
  | [], _, k, h => by
    have h : _ = [] := h
    subst h
    cases k <;> exact rfl
  | _ :: _, _, 0, _ => rfl
  | _ :: _, _, k + 1, ⟨w, r, e, h, t⟩ => by
    subst e
    exact ⟨w, _, rfl, h, RVs.take k t⟩
theorem RVs.drop : ∀ {ps : List PV} {vs : List V} (k : Nat), RVs W H ρ n ps vs → RVs W H ρ n (ps.drop k) (vs.drop k)
  | [], _, k, h => by
    have h : _ = [] := h
    subst h
    cases k <;> exact rfl
  | _ :: _, _, 0, h => h
  | _ :: _, _, k + 1, ⟨w, r, e, h, t⟩ => by
    subst e
    exact RVs.drop k t
theorem RVs.one {p : PV} {vs : List V} (h : RVs W H ρ n [p] vs) : ∃ v, vs = [v] ∧ RV W H ρ n p v := by
  obtain ⟨v, r, e, h, t⟩ := h
  have t : r = [] := t
  subst e t
  exact ⟨v, rfl, h⟩
theorem RVs.two {p q : PV} {vs : List V} (h : RVs W H ρ n [p, q] vs) : ∃ v w, vs = [v, w] ∧ RV W H ρ n p v ∧ RV W H ρ n q w := by
  obtain ⟨v, r, e, h, t⟩ := h
  obtain ⟨w, rfl, h2⟩ := RVs.one t
  exact ⟨v, w, e, h, h2⟩
theorem RVs.nil {vs : List V} (h : RVs W H ρ n [] vs) : vs = [] := h
theorem RVs.three {p q u : PV} {vs : List V} (h : RVs W H ρ n [p, q, u] vs) : ∃ v w x, vs = [v, w, x] ∧ RV W H ρ n p v ∧ RV W H ρ n q w ∧ RV W H ρ n u x := by
  obtain ⟨v, r, e, h, t⟩ := h
  obtain ⟨w, x, rfl, h2, h3⟩ := RVs.two t
  exact ⟨v, w, x, e, h, h2, h3⟩
end

/-- the pairs of a dict -/
def RKs (W : Wd) (H : Hp) (ρ : Nat → Addr) (n : Nat) : List (Key × PV) → List (Key × V) → Prop
  | [], vs => vs = []
  | (k, p) :: ps, vs => ∃ v r, vs = (k, v) :: r ∧ RV W H ρ n p v ∧ RKs W H ρ n ps r
theorem RKs.mono {W : Wd} {H H' : Hp} {ρ ρ' : Nat → Addr} {n n' : Nat} (x : HX H H') (ag : Agr n ρ ρ') (le : n ≤ n') : ∀ (ps : List (Key × PV)) (vs : List (Key × V)), RKs W H ρ n ps vs → RKs W H' ρ' n' ps vs
  | [], _, h => h
  | (k, p) :: ps, _, ⟨v, r, e, h, t⟩ => ⟨v, r, e, h.mono x ag le, RKs.mono x ag le ps r t⟩
/-- a list that nobody writes -/
def FzL (K : PySem.W.Frag) (H : Hp) (a : Addr) (vs : List V) : Prop :=
  (∃ o, H a = some (.frz o (.lst vs))) ∨ ∃ (o : Obj) (its : Array Value) (n : Nat), K.lookup a = some o ∧ o.cls = .type "list" ∧ o.dict = none ∧ o.data = .seq its n ∧ its.size ≤ sizeLine ∧ Vals vs its.toList
theorem FzL.sq {K : PySem.W.Frag} {H : Hp} {a : Addr} {vs : List V} (h : FzL K H a vs) : SqL K H a vs := by
  rcases h with ⟨o, h⟩ | h
  · exact .inl (.inr ⟨o, h⟩)
  · exact .inr h
theorem FzL.mono {K : PySem.W.Frag} {H H' : Hp} {a : Addr} {vs : List V} (x : HX H H') (h : FzL K H a vs) : FzL K H' a vs := by
  rcases h with ⟨o, h⟩ | h
  · exact .inl ⟨o, x.frz _ _ _ h⟩
  · exact .inr h
/-- an object of the store stands at a -/
def RO (W : Wd) (H : Hp) (ρ : Nat → Addr) (n : Nat) : SO → Addr → Prop
  | .lst xs, a => ∃ vs, H a = some (.lst vs) ∧ RVs W H ρ n xs vs
  | .dct kvs, a => ∃ vs, H a = some (.dK vs) ∧ RKs W H ρ n kvs vs
  | .fz xs, a => ∃ vs, FzL W.K H a vs ∧ RVs W H ρ n xs vs
def SO.mut : SO → Bool
  | .fz _ => false
  | _ => true
structure RSt (W : Wd) (H : Hp) (ρ : Nat → Addr) (st : Sto) : Prop where
  inj : ∀ (i j : Nat) (o u : SO), st[i]? = some o → st[j]? = some u → o.mut = true → u.mut = true → ρ i = ρ j → i = j
  obj : ∀ (i : Nat) (o : SO), st[i]? = some o → RO W H ρ st.length o (ρ i)
  tab : LamX.Tabs W.T H
/-- from a state to a later one -/
structure Stp (W : Wd) (H : Hp) (ρ : Nat → Addr) (n : Nat) (H' : Hp) (ρ' : Nat → Addr) (st' : Sto) : Prop where
  rs : RSt W H' ρ' st'
  ext : HX H H'
  agr : Agr n ρ ρ'
  len : n ≤ st'.length
theorem Stp.refl {W : Wd} {H : Hp} {ρ : Nat → Addr} {st : Sto} (r : RSt W H ρ st) : Stp W H ρ st.length H ρ st := ⟨r, .refl _, .refl _ _, Nat.le_refl _⟩
theorem Stp.trans {W : Wd} {H H1 H2 : Hp} {ρ ρ1 ρ2 : Nat → Addr} {n : Nat} {st1 st2 : Sto} (a : Stp W H ρ n H1 ρ1 st1) (b : Stp W H1 ρ1 st1.length H2 ρ2 st2) : Stp W H ρ n H2 ρ2 st2 :=
  ⟨b.rs, a.ext.trans b.ext, fun i h => by rw [b.agr i (Nat.lt_of_lt_of_le h a.len), a.agr i h], Nat.le_trans a.len b.len⟩
theorem Stp.rv {W : Wd} {H H' : Hp} {ρ ρ' : Nat → Addr} {n : Nat} {st' : Sto} (s : Stp W H ρ n H' ρ' st') {p : PV} {v : V} (h : RV W H ρ n p v) : RV W H' ρ' st'.length p v := h.mono s.ext s.agr s.len
theorem Stp.rvs {W : Wd} {H H' : Hp} {ρ ρ' : Nat → Addr} {n : Nat} {st' : Sto} (s : Stp W H ρ n H' ρ' st') {p : List PV} {v : List V} (h : RVs W H ρ n p v) : RVs W H' ρ' st'.length p v := h.mono s.ext s.agr s.len
/-- an exception -/
def RX (W : Wd) (H : Hp) (ρ : Nat → Addr) (n : Nat) (e : Ex) (c : Value) (d : Option Addr) : Prop :=
  W.ca e.cls = some c ∧ match e.fld with
    | none => d = none
    | some (f, p) => ∃ dd v, d = some dd ∧ H dd = some (.xd [(f, v)]) ∧ RV W H ρ n p v
structure REnv (W : Wd) (H : Hp) (ρ : Nat → Addr) (n : Nat) (env : Env) (σ : L2.St) : Prop where
  len : env.length = σ.length
  get : ∀ (i : Nat) (p : PV), env[i]? = some (some p) → ∃ v : V, σ[i]? = some (some v) ∧ RV W H ρ n p v
theorem REnv.mono {W : Wd} {H H' : Hp} {ρ ρ' : Nat → Addr} {n n' : Nat} {env : Env} {σ : L2.St} (x : HX H H') (ag : Agr n ρ ρ') (le : n ≤ n') (h : REnv W H ρ n env σ) : REnv W H' ρ' n' env σ :=
  ⟨h.len, fun i p e => let ⟨v, h1, h2⟩ := h.get i p e; ⟨v, h1, h2.mono x ag le⟩⟩
theorem Stp.renv {W : Wd} {H H' : Hp} {ρ ρ' : Nat → Addr} {n : Nat} {st' : Sto} (s : Stp W H ρ n H' ρ' st') {env : Env} {σ : L2.St} (h : REnv W H ρ n env σ) : REnv W H' ρ' st'.length env σ := h.mono s.ext s.agr s.len
theorem REnv.set {W : Wd} {H : Hp} {ρ : Nat → Addr} {n : Nat} {env : Env} {σ : L2.St} {p : PV} {v : V} (h : REnv W H ρ n env σ) (i : Nat) (r : RV W H ρ n p v) : REnv W H ρ n (env.set i (some p)) (σ.set i (some v)) := by
  refine ⟨by rw [List.length_set, List.length_set, h.len], fun j q e => ?_⟩
  by_cases hj : i = j
  · subst hj
    by_cases hl : i < env.length
    · rw [List.getElem?_set_self hl] at e
      cases e
      exact ⟨v, by rw [List.getElem?_set_self (by rw [← h.len]; exact hl)], r⟩
    · rw [List.getElem?_eq_none (by rw [List.length_set]; exact Nat.le_of_not_lt hl)] at e
      cases e
  · rw [List.getElem?_set_ne hj] at e
    obtain ⟨w, h1, h2⟩ := h.get j q e
    exact ⟨w, by rw [List.getElem?_set_ne hj]; exact h1, h2⟩
/-- forgetting slots -/
def wipeE (env : Env) : List Nat → Env
  | [] => env
  | v :: vs => (wipeE env vs).set v none
theorem REnv.wipe {W : Wd} {H : Hp} {ρ : Nat → Addr} {n : Nat} {env : Env} {σ : L2.St} (h : REnv W H ρ n env σ) : ∀ vs : List Nat, REnv W H ρ n (wipeE env vs) (L2.wipe σ vs)
  | [] => h
  | v :: vs => by
    have r := REnv.wipe h vs
    refine ⟨by show (List.set _ _ _).length = (List.set _ _ _).length; rw [List.length_set, List.length_set, r.len], fun j q e => ?_⟩
    have e : ((wipeE env vs).set v none)[j]? = some (some q) := e
    by_cases hj : v = j
    · subst hj
      by_cases hl : v < (wipeE env vs).length
      · rw [List.getElem?_set_self hl] at e
        cases e
      · rw [List.getElem?_eq_none (by rw [List.length_set]; exact Nat.le_of_not_lt hl)] at e
        cases e
    · rw [List.getElem?_set_ne hj] at e
      obtain ⟨w, h1, h2⟩ := r.get j q e
      exact ⟨w, by show ((L2.wipe σ vs).set v none)[j]? = _; rw [List.getElem?_set_ne hj]; exact h1, h2⟩

/-! ### readings -/
/-- what a call of what was handed in does -/
abbrev TR := Hp → (Nat → Addr) → Nat → Th → Prop
def TR.Stays (W : Wd) (t : TR) : Prop := ∀ H ρ n th H' ρ' st', Stp W H ρ n H' ρ' st' → t H ρ n th → t H' ρ' st'.length th
section
variable (W : Wd)
def gR {α β : Type} (R : Hp → (Nat → Addr) → Nat → α → β → Prop) (E : XK) (r : Res α) (H : Hp) (ρ : Nat → Addr) (n : Nat) (Q : β → Hp → Prop) : Prop := match r with
  | .ok v st' => ∀ H' ρ' x, Stp W H ρ n H' ρ' st' → R H' ρ' st'.length v x → Q x H'
  | .exc e st' => ∀ H' ρ' c d, Stp W H ρ n H' ρ' st' → RX W H' ρ' st'.length e c d → E c d H'
  | .bad => False
abbrev gE (E : XK) (r : Res PV) (H : Hp) (ρ : Nat → Addr) (n : Nat) (Q : VK) : Prop := gR W (fun H ρ n p x => RV W H ρ n p x) E r H ρ n Q
abbrev gB (E : XK) (r : Res Bool) (H : Hp) (ρ : Nat → Addr) (n : Nat) (Q : Bool → Hp → Prop) : Prop := gR W (fun _ _ _ p x => x = p) E r H ρ n Q
abbrev gL (E : XK) (r : Res (List PV)) (H : Hp) (ρ : Nat → Addr) (n : Nat) (Q : List V → Hp → Prop) : Prop := gR W (fun H ρ n p x => RVs W H ρ n p x) E r H ρ n Q
def gS (Wx : WX) (r : RS) (H : Hp) (ρ : Nat → Addr) (n : Nat) (D : Ends) : Prop := match r with
  | .nx env st' => ∀ H' ρ' σ', Stp W H ρ n H' ρ' st' → REnv W H' ρ' st'.length env σ' → D.nx σ' H'
  | .bk env st' => ∀ H' ρ' σ', Stp W H ρ n H' ρ' st' → REnv W H' ρ' st'.length env σ' → D.bk σ' H'
  | .ct env st' => ∀ H' ρ' σ', Stp W H ρ n H' ρ' st' → REnv W H' ρ' st'.length env σ' → D.ct σ' H'
  | .rt v st' => ∀ H' ρ' x, Stp W H ρ n H' ρ' st' → RV W H' ρ' st'.length v x → D.rt x H'
  | .exc e env st' => ∀ H' ρ' σ' c d, Stp W H ρ n H' ρ' st' → REnv W H' ρ' st'.length env σ' → RX W H' ρ' st'.length e c d → Wx c d σ' H'
  | .bad => False
end
/-- where one stands: the world, what is wished of exceptions, what is known of what was handed in -/
structure Jx where
  W : Wd
  Wx : WX
  tr : TR
/-- a state in which d is run -/
structure Sit (J : Jx) (ρ : Nat → Addr) (th : Th) (env : Env) (st : Sto) (σ : L2.St) (H : Hp) : Prop where
  rs : RSt J.W H ρ st
  env : REnv J.W H ρ st.length env σ
  th : J.tr H ρ st.length th
theorem Sit.step {J : Jx} {ρ ρ' : Nat → Addr} {th : Th} {env : Env} {st st' : Sto} {σ : L2.St} {H H' : Hp} (hs : J.tr.Stays J.W) (h : Sit J ρ th env st σ H) (s : Stp J.W H ρ st.length H' ρ' st') : Sit J ρ' th env st' σ H' :=
  ⟨s.rs, s.renv h.env, hs _ _ _ _ _ _ _ s h.th⟩
def rdR {α β : Type} (J : Jx) (R : Hp → (Nat → Addr) → Nat → α → β → Prop) (d : Dn α) : L2.St → Hp → (β → Hp → Prop) → Prop := fun σ H Q =>
  ∃ ρ th env st, Sit J ρ th env st σ H ∧ gR J.W R (fun c dd H' => J.Wx c dd σ H') (d th env st) H ρ st.length Q
abbrev rdE (J : Jx) (d : DE) : TE := rdR J (fun H ρ n p x => RV J.W H ρ n p x) d
abbrev rdB (J : Jx) (d : DB) : TT := rdR J (fun _ _ _ p x => x = p) d
abbrev rdL (J : Jx) (d : DL) : TA := rdR J (fun H ρ n p x => RVs J.W H ρ n p x) d
def rdS (J : Jx) (d : DS) : TS := fun D σ H => ∃ ρ th env st, Sit J ρ th env st σ H ∧ gS J.W J.Wx (d th env st) H ρ st.length D

section
variable {W : Wd} {H H' : Hp} {ρ ρ' : Nat → Addr} {n : Nat} {st' : Sto}
theorem gR.pre {α β : Type} {R : Hp → (Nat → Addr) → Nat → α → β → Prop} {E : XK} {r : Res α} {Q : β → Hp → Prop} (s : Stp W H ρ n H' ρ' st') (h : gR W R E r H ρ n Q) : gR W R E r H' ρ' st'.length Q := by
  cases r with
  | ok v st2 => exact fun H2 ρ2 x s2 q => h H2 ρ2 x (s.trans s2) q
  | exc e st2 => exact fun H2 ρ2 c d s2 q => h H2 ρ2 c d (s.trans s2) q
  | bad => exact h
theorem gS.pre {Wx : WX} {r : RS} {D : Ends} (s : Stp W H ρ n H' ρ' st') (h : gS W Wx r H ρ n D) : gS W Wx r H' ρ' st'.length D := by
  cases r with
  | nx env st2 => exact fun H2 ρ2 x s2 q => h H2 ρ2 x (s.trans s2) q
  | bk env st2 => exact fun H2 ρ2 x s2 q => h H2 ρ2 x (s.trans s2) q
  | ct env st2 => exact fun H2 ρ2 x s2 q => h H2 ρ2 x (s.trans s2) q
  | rt v st2 => exact fun H2 ρ2 x s2 q => h H2 ρ2 x (s.trans s2) q
  | exc e env st2 => exact fun H2 ρ2 σ2 c d s2 q => h H2 ρ2 σ2 c d (s.trans s2) q
  | bad => exact h
theorem gR.bind {α β γ δ : Type} {R : Hp → (Nat → Addr) → Nat → α → β → Prop} {R2 : Hp → (Nat → Addr) → Nat → γ → δ → Prop} {E : XK} {r : Res α} {f : α → Sto → Res γ} {Q : δ → Hp → Prop} {Q2 : β → Hp → Prop}
    (h : gR W R2 E (r.bind f) H ρ n Q) (k : ∀ v st1 H1 ρ1 x, r = .ok v st1 → Stp W H ρ n H1 ρ1 st1 → R H1 ρ1 st1.length v x → gR W R2 E (f v st1) H1 ρ1 st1.length Q → Q2 x H1) : gR W R E r H ρ n Q2 := by
  cases r with
  | ok v st1 => exact fun H1 ρ1 x s1 q => k v st1 H1 ρ1 x rfl s1 q (gR.pre s1 h)
  | exc e st1 => exact h
  | bad => exact h
theorem gR.mono {α β : Type} {R : Hp → (Nat → Addr) → Nat → α → β → Prop} {E : XK} {r : Res α} {Q Q2 : β → Hp → Prop} (h : gR W R E r H ρ n Q) (k : ∀ x H', Q x H' → Q2 x H') : gR W R E r H ρ n Q2 := by
  cases r with
  | ok v st1 => exact fun H1 ρ1 x s1 q => k x H1 (h H1 ρ1 x s1 q)
  | exc e st1 => exact h
  | bad => exact h
theorem gR.now {α β : Type} {R : Hp → (Nat → Addr) → Nat → α → β → Prop} {E : XK} {v : α} {st : Sto} {x : β} {Q : β → Hp → Prop} (r : RSt W H ρ st) (hx : R H ρ st.length v x) (h : gR W R E (.ok v st) H ρ st.length Q) : Q x H :=
  h H ρ x (.refl r) hx
end
section
variable {J : Jx}
/-- one part, then what is made of it -/
theorem rd_bind {α β γ δ : Type} {R : Hp → (Nat → Addr) → Nat → α → β → Prop} {R2 : Hp → (Nat → Addr) → Nat → γ → δ → Prop} {da : Dn α} {f : α → Dn γ} {σ : L2.St} {H : Hp} {Q : δ → Hp → Prop} {Q2 : β → Hp → Prop} (hs : J.tr.Stays J.W)
    (h : rdR J R2 (fun th env st => (da th env st).bind fun v st1 => f v th env st1) σ H Q)
    (k : ∀ ρ th env st v x H1, Sit J ρ th env st σ H1 → R H1 ρ st.length v x → gR J.W R2 (fun c dd H' => J.Wx c dd σ H') (f v th env st) H1 ρ st.length Q → Q2 x H1) : rdR J R da σ H Q2 := by
  obtain ⟨ρ, th, env, st, S, g⟩ := h
  exact ⟨ρ, th, env, st, S, gR.bind g fun v st1 H1 ρ1 x _ s1 r g1 => k ρ1 th env st1 v x H1 (S.step hs s1) r g1⟩
theorem rd_of {α β : Type} {R : Hp → (Nat → Addr) → Nat → α → β → Prop} {d : Dn α} {ρ : Nat → Addr} {th : Th} {env : Env} {st : Sto} {σ : L2.St} {H : Hp} {Q : β → Hp → Prop} (S : Sit J ρ th env st σ H)
    (g : gR J.W R (fun c dd H' => J.Wx c dd σ H') (d th env st) H ρ st.length Q) : rdR J R d σ H Q := ⟨ρ, th, env, st, S, g⟩
theorem PE.imp {X : Cx} {e : Expr} {t t' : TE} (h : PE X e t) (k : ∀ σ H Q, t' σ H Q → t σ H Q) : PE X e t' := ⟨fun pins s σ H Q I q => h.run pins s σ H Q I (k σ H Q q)⟩
theorem PT.imp {X : Cx} {e : Expr} {t t' : TT} (h : PT X e t) (k : ∀ σ H Q, t' σ H Q → t σ H Q) : PT X e t' := ⟨fun pins s σ H Q I q => h.run pins s σ H Q I (k σ H Q q)⟩
theorem PA.imp {X : Cx} {e : List Expr} {t t' : TA} (h : PA X e t) (k : ∀ σ H Q, t' σ H Q → t σ H Q) : PA X e t' := ⟨fun pos pins s σ H Q I q => h.run pos pins s σ H Q I (k σ H Q q)⟩
theorem PS.imp {X : Cx} {e : Stmt} {t t' : TS} (h : PS X e t) (k : ∀ D σ H, t' D σ H → t D σ H) : PS X e t' := ⟨fun pins s σ H D I q => h.run pins s σ H D I (k D σ H q)⟩
theorem PSs.imp {X : Cx} {e : List Stmt} {t t' : TS} (h : PSs X e t) (k : ∀ D σ H, t' D σ H → t D σ H) : PSs X e t' := ⟨fun pins s σ H D I q => h.run pins s σ H D I (k D σ H q)⟩
end
end Mi
end
section
set_option maxRecDepth 100000
set_option maxHeartbeats 4000000
namespace Mi
open PySem PySem.Spec PyProof.Rows L2
/-! ### new objects, written objects -/
section
variable {W : Wd} {H H' : Hp} {ρ ρ' : Nat → Addr} {n n' : Nat} {st : Sto} {p : Addr} {o u : HO}
theorem tabs_new {T : List (Addr × Str)} (hp : H p = none) (h : LamX.Tabs T H) : LamX.Tabs T (upd H p o) := h.ext fun b v e => by
  rw [upd_ne (ne_of_none e hp)]
  exact e
theorem tabs_mut {T : List (Addr × Str)} (hp : H p = some u) (h1 : ∀ ps, u ≠ .tbl ps) (h2 : ∀ φ, u ≠ .ext φ) (h : LamX.Tabs T H) : LamX.Tabs T (upd H p o) := fun q hq => by
  obtain ⟨ps, e1, e2, e3⟩ := h q hq
  refine ⟨ps, ?_, e2, fun pos cv hc => ?_⟩
  · rw [upd_ne (ne_of e1 hp fun z => h1 ps z.symm)]
    exact e1
  · obtain ⟨c, a1, a2⟩ := e3 pos cv hc
    refine ⟨c, a1, ?_⟩
    rw [upd_ne (ne_of a2 hp fun z => by unfold LamX.CodeO at z; exact h2 _ z.symm)]
    exact a2
theorem RO.mono {so : SO} {a : Addr} (x : HX H H') (ag : Agr n ρ ρ') (le : n ≤ n') (e : ∀ u, (∀ xs, u ≠ .tup xs) → (∀ o w, u ≠ .frz o w) → H a = some u → H' a = some u) (h : RO W H ρ n so a) : RO W H' ρ' n' so a := by
  cases so with
  | lst xs =>
    obtain ⟨vs, h1, h2⟩ := h
    exact ⟨vs, e _ (fun _ z => by cases z) (fun _ _ z => by cases z) h1, h2.mono x ag le⟩
  | dct xs =>
    obtain ⟨vs, h1, h2⟩ := h
    exact ⟨vs, e _ (fun _ z => by cases z) (fun _ _ z => by cases z) h1, RKs.mono x ag le _ _ h2⟩
  | fz xs =>
    obtain ⟨vs, h1, h2⟩ := h
    exact ⟨vs, h1.mono x, h2.mono x ag le⟩
/-- what stands for a mutable object -/
theorem RO.there {so : SO} {a : Addr} (h : RO W H ρ n so a) (m : so.mut = true) : ∃ u, H a = some u ∧ (∀ xs, u ≠ .tup xs) ∧ (∀ o w, u ≠ .frz o w) ∧ (∀ ps, u ≠ .tbl ps) ∧ ∀ φ, u ≠ .ext φ := by
  cases so with
  | lst xs =>
    obtain ⟨vs, h1, h2⟩ := h
    exact ⟨_, h1, (fun _ z => by cases z), (fun _ _ z => by cases z), (fun _ z => by cases z), (fun _ z => by cases z)⟩
  | dct xs =>
    obtain ⟨vs, h1, h2⟩ := h
    exact ⟨_, h1, (fun _ z => by cases z), (fun _ _ z => by cases z), (fun _ z => by cases z), (fun _ z => by cases z)⟩
  | fz xs => cases m
/-- a new object that the store does not hold -/
theorem Stp.aside (r : RSt W H ρ st) (hp : H p = none) : Stp W H ρ st.length (upd H p o) ρ st := by
  refine ⟨⟨r.inj, fun i so e => ?_, tabs_new hp r.tab⟩, HX.new hp, .refl _ _, Nat.le_refl _⟩
  exact (r.obj i so e).mono (HX.new hp) (.refl _ _) (Nat.le_refl _) fun u _ _ h => by
    rw [upd_ne (ne_of_none h hp)]
    exact h
def put (ρ : Nat → Addr) (n : Nat) (p : Addr) : Nat → Addr := fun i => if i = n then p else ρ i
theorem put_same {ρ : Nat → Addr} {n : Nat} {p : Addr} : put ρ n p n = p := if_pos rfl
theorem put_agr {ρ : Nat → Addr} {n : Nat} {p : Addr} : Agr n ρ (put ρ n p) := fun i h => if_neg (Nat.ne_of_lt h)
/-- a new object -/
theorem Stp.alloc {so : SO} (r : RSt W H ρ st) (hp : H p = none) (new : RO W (upd H p o) (put ρ st.length p) (st.length + 1) so p) (hm : so.mut = true) : Stp W H ρ st.length (upd H p o) (put ρ st.length p) (st ++ [so]) := by
  have len : (st ++ [so]).length = st.length + 1 := by simp
  have hx : HX H (upd H p o) := HX.new hp
  have obj : ∀ (i : Nat) (u : SO), (st ++ [so])[i]? = some u → (i < st.length ∧ st[i]? = some u ∧ put ρ st.length p i = ρ i) ∨ (i = st.length ∧ u = so) := fun i u e => by
    by_cases h : i < st.length
    · rw [List.getElem?_append_left h] at e
      exact .inl ⟨h, e, put_agr i h⟩
    · have h2 : i = st.length := by
        have := (List.getElem?_eq_some_iff.mp e).1
        rw [len] at this
        omega
      subst h2
      rw [List.getElem?_append_right (Nat.le_refl _)] at e
      simp at e
      exact .inr ⟨rfl, e.symm⟩
  refine ⟨⟨fun i j a b ei ej ma mb q => ?_, fun i u e => ?_, tabs_new hp r.tab⟩, hx, put_agr, by omega⟩
  · rcases obj i a ei with ⟨hi, ei, pi⟩ | ⟨hi, ea⟩ <;> rcases obj j b ej with ⟨hj, ej, pj⟩ | ⟨hj, eb⟩
    · rw [pi, pj] at q
      exact r.inj i j a b ei ej ma mb q
    · subst hj
      rw [pi, put_same] at q
      obtain ⟨u, h1, _⟩ := (r.obj i a ei).there ma
      rw [q, hp] at h1
      cases h1
    · subst hi
      rw [pj, put_same] at q
      obtain ⟨u, h1, _⟩ := (r.obj j b ej).there mb
      rw [← q, hp] at h1
      cases h1
    · rw [hi, hj]
  · rw [len]
    rcases obj i u e with ⟨hi, ei, pi⟩ | ⟨hi, ea⟩
    · rw [pi]
      exact (r.obj i u ei).mono hx put_agr (Nat.le_succ _) fun w _ _ h => by
        rw [upd_ne (ne_of_none h hp)]
        exact h
    · subst hi ea
      rw [put_same]
      exact new
/-- an object is written -/
theorem Stp.write {k : Nat} {so so' : SO} (r : RSt W H ρ st) (hk : st[k]? = some so) (m : so.mut = true) (m' : so'.mut = true) (new : RO W (upd H (ρ k) o) ρ st.length so' (ρ k)) : Stp W H ρ st.length (upd H (ρ k) o) ρ (st.set k so') := by
  obtain ⟨u, h1, n1, n2, n3, n4⟩ := (r.obj k so hk).there m
  have hx : HX H (upd H (ρ k) o) := HX.mut h1 n1 n2
  have hl : k < st.length := (List.getElem?_eq_some_iff.mp hk).1
  have obj : ∀ (i : Nat) (w : SO), (st.set k so')[i]? = some w → (i = k ∧ w = so') ∨ (i ≠ k ∧ st[i]? = some w) := fun i w e => by
    by_cases h : i = k
    · subst h
      rw [List.getElem?_set_self hl] at e
      exact .inl ⟨rfl, (Option.some.inj e).symm⟩
    · rw [List.getElem?_set_ne (Ne.symm h)] at e
      exact .inr ⟨h, e⟩
  have orig : ∀ (i : Nat) (w : SO), (st.set k so')[i]? = some w → w.mut = true → ∃ w', st[i]? = some w' ∧ w'.mut = true := fun i w e mw => by
    rcases obj i w e with ⟨rfl, _⟩ | ⟨_, e⟩
    · exact ⟨so, hk, m⟩
    · exact ⟨w, e, mw⟩
  refine ⟨⟨fun i j a b ei ej ma mb q => ?_, fun i w e => ?_, tabs_mut h1 n3 n4 r.tab⟩, hx, .refl _ _, by rw [List.length_set]; exact Nat.le_refl _⟩
  · obtain ⟨a', ea, ma'⟩ := orig i a ei ma
    obtain ⟨b', eb, mb'⟩ := orig j b ej mb
    exact r.inj i j a' b' ea eb ma' mb' q
  · rw [List.length_set]
    rcases obj i w e with ⟨rfl, rfl⟩ | ⟨hi, e⟩
    · exact new
    · by_cases hm : w.mut = true
      · refine (r.obj i w e).mono hx (.refl _ _) (Nat.le_refl _) fun u' a1 a2 h => ?_
        have ne : ρ i ≠ ρ k := fun z => hi (r.inj i k w so e hk hm m z)
        rw [upd_ne ne]
        exact h
      · cases w with
        | fz xs =>
          obtain ⟨vs, hf, hv⟩ := r.obj i _ e
          exact ⟨vs, hf.mono hx, hv.mono hx (.refl _ _) (Nat.le_refl _)⟩
        | lst xs => exact absurd rfl hm
        | dct xs => exact absurd rfl hm
/-! ### the forms one uses -/
theorem Stp.newL {xs : List PV} {vs : List V} (r : RSt W H ρ st) (hp : H p = none) (h : RVs W H ρ st.length xs vs) : Stp W H ρ st.length (upd H p (.lst vs)) (put ρ st.length p) (st ++ [.lst xs]) :=
  .alloc r hp ⟨vs, upd_same, h.mono (HX.new hp) put_agr (Nat.le_succ _)⟩ rfl
theorem Stp.setL {k : Nat} {so : SO} {xs : List PV} {vs : List V} (r : RSt W H ρ st) (hk : st[k]? = some so) (m : so.mut = true) (h : RVs W H ρ st.length xs vs) : Stp W H ρ st.length (upd H (ρ k) (.lst vs)) ρ (st.set k (.lst xs)) := by
  obtain ⟨u, h1, n1, n2, _⟩ := (r.obj k so hk).there m
  exact .write r hk m rfl ⟨vs, upd_same, h.mono (HX.mut h1 n1 n2) (.refl _ _) (Nat.le_refl _)⟩
theorem Stp.newT {vs : List V} (r : RSt W H ρ st) (hp : H p = none) : Stp W H ρ st.length (upd H p (.tup vs)) ρ st := .aside r hp
theorem rv_newT {xs : List PV} {vs : List V} (hp : H p = none) (h : RVs W H ρ n xs vs) : RV W (upd H p (.tup vs)) ρ n (.tup xs) (.ref p) :=
  ⟨p, vs, rfl, .inl (.inl upd_same), h.mono (HX.new hp) (.refl _ _) (Nat.le_refl _)⟩
/-- a list of the store, read -/
theorem RSt.lst {k : Nat} {xs : List PV} (r : RSt W H ρ st) (hk : st[k]? = some (.lst xs)) : ∃ vs, H (ρ k) = some (.lst vs) ∧ RVs W H ρ st.length xs vs := r.obj k _ hk
end
end Mi
end
section
set_option maxRecDepth 100000
set_option maxHeartbeats 4000000
namespace Mi
open PySem PySem.Spec PyProof.Rows L2
/-! ### operations by values -/
def szOk (n : Nat) : Bool := Nat.ble n 16777216
theorem szOk_le {n : Nat} (h : szOk n = true) : n ≤ sizeLine := by
  rw [sizeLine_eq]
  exact Nat.le_of_ble_eq_true h
def lstAt (st : Sto) (k : Nat) : Option (List PV) := match st[k]? with
  | some (.lst xs) => some xs
  | some (.fz xs) => some xs
  | _ => none
section
variable {W : Wd} {H : Hp} {ρ : Nat → Addr} {n : Nat} {st : Sto}
theorem RSt.seq {k : Nat} {xs : List PV} (r : RSt W H ρ st) (h : lstAt st k = some xs) : ∃ vs, SqL W.K H (ρ k) vs ∧ RVs W H ρ st.length xs vs := by
  unfold lstAt at h
  split at h
  · rename_i ys e
    cases h
    obtain ⟨vs, h1, h2⟩ := r.obj k _ e
    exact ⟨vs, .of h1, h2⟩
  · rename_i ys e
    cases h
    obtain ⟨vs, h1, h2⟩ := r.obj k _ e
    exact ⟨vs, h1.sq, h2⟩
  · cases h
/-- data -/
def mapO {α β : Type} (f : α → Option β) : List α → Option (List β)
  | [] => some []
  | x :: xs => match f x with
    | some y => match mapO f xs with
      | some ys => some (y :: ys)
      | none => none
    | none => none
def okCh (s : List Nat) : Bool := s.all fun c => Nat.blt c 1114112
def dat : Nat → Sto → PV → Option PyData
  | _, _, .non => some .none
  | _, _, .bl b => some (.bool b)
  | _, _, .int i => some (.int i)
  | _, _, .str s => if okCh s = true then some (.str ⟨s.toArray⟩) else none
  | n + 1, st, .tup xs => match mapO (dat n st) xs with
    | some ds => some (.tuple ds)
    | none => none
  | n + 1, st, .ref k => match lstAt st k with
    | some xs => match mapO (dat n st) xs with
      | some ds => some (.list ds)
      | none => none
    | none => none
  | _, _, _ => none
theorem okCh_ok {s : List Nat} (h : okCh s = true) : PyData.strOk ⟨s.toArray⟩ = true := by
  unfold PyData.strOk
  unfold okCh at h
  show s.toArray.all _ = true
  rw [List.all_toArray]
  refine List.all_eq_true.mpr fun c hc => ?_
  have h2 := List.all_eq_true.mp h c hc
  have h3 : c < 1114112 := Nat.le_of_ble_eq_true h2
  exact decide_eq_true h3
theorem mapO_all {f : PV → Option PyData} {P : PyData → Prop} (hf : ∀ p d, f p = some d → P d) : ∀ {xs : List PV} {ds : List PyData}, mapO f xs = some ds → ∀ d ∈ ds, P d
  | [], ds, e => by
    cases e
    intro d hd
    cases hd
  | x :: xs, ds, e => by
    unfold mapO at e
    split at e
    · rename_i y ey
      split at e
      · rename_i ys eys
        cases e
        intro d hd
        rcases List.mem_cons.mp hd with rfl | hd
        · exact hf _ _ ey
        · exact mapO_all hf eys d hd
      · cases e
    · cases e
theorem canLayAll_of : ∀ {ds : List PyData}, (∀ d ∈ ds, d.canLay0 = true) → PyData.canLayAll0 ds = true
  | [], _ => rfl
  | d :: ds, h => by
    unfold PyData.canLayAll0
    rw [h d (List.mem_cons_self ..), canLayAll_of fun e he => h e (List.mem_cons_of_mem _ he)]
    rfl
theorem depthAll_of {n : Nat} : ∀ {ds : List PyData}, (∀ d ∈ ds, d.depth ≤ n) → PyData.depthAll ds ≤ n
  | [], _ => Nat.zero_le _
  | d :: ds, h => by
    unfold PyData.depthAll
    exact Nat.max_le.mpr ⟨h d (List.mem_cons_self ..), depthAll_of fun e he => h e (List.mem_cons_of_mem _ he)⟩
theorem dat_shape : ∀ (n : Nat) (p : PV) (d : PyData), dat n st p = some d → d.canLay0 = true ∧ d.depth ≤ n := by
  intro n
  induction n with
  | zero =>
    intro p d e
    cases p <;> simp only [dat] at e <;> first
      | (cases e; done)
      | (cases e; exact ⟨rfl, Nat.le_refl _⟩)
      | (split at e
         · rename_i h
           cases e
           exact ⟨okCh_ok h, Nat.le_refl _⟩
         · cases e)
  | succ n ih =>
    intro p d e
    cases p <;> simp only [dat] at e
    all_goals try (first | (cases e; done) | (cases e; exact ⟨rfl, Nat.zero_le _⟩))
    · split at e
      · rename_i h
        cases e
        exact ⟨okCh_ok h, Nat.zero_le _⟩
      · cases e
    · split at e
      · rename_i ds hd
        cases e
        have h := mapO_all (P := fun d => d.canLay0 = true ∧ d.depth ≤ n) ih hd
        refine ⟨canLayAll_of fun d q => (h d q).1, ?_⟩
        unfold PyData.depth
        have := depthAll_of fun d q => (h d q).2
        omega
      · cases e
    · split at e
      · split at e
        · rename_i ds hd
          cases e
          have h := mapO_all (P := fun d => d.canLay0 = true ∧ d.depth ≤ n) ih hd
          refine ⟨canLayAll_of fun d q => (h d q).1, ?_⟩
          unfold PyData.depth
          have := depthAll_of fun d q => (h d q).2
          omega
        · cases e
      · cases e
theorem mapO_dp (r : RSt W H ρ st) {f : PV → Option PyData} (hf : ∀ p d x, f p = some d → RV W H ρ st.length p x → Dp W.K H x d) : ∀ {xs : List PV} {ds : List PyData} {vs : List V}, mapO f xs = some ds → RVs W H ρ st.length xs vs → DpAll W.K H vs ds
  | [], ds, vs, e, h => by
    cases e
    have h : vs = [] := h
    subst h
    exact .nil
  | x :: xs, ds, vs, e, h => by
    unfold mapO at e
    obtain ⟨v, w, rfl, h1, h2⟩ := h
    split at e
    · rename_i y ey
      split at e
      · rename_i ys eys
        cases e
        exact .cons (hf _ _ _ ey h1) (mapO_dp r hf eys h2)
      · cases e
    · cases e
theorem dat_dp (r : RSt W H ρ st) : ∀ (n : Nat) (p : PV) (d : PyData) (x : V), dat n st p = some d → RV W H ρ st.length p x → Dp W.K H x d := by
  intro n
  induction n with
  | zero =>
    intro p d x e h
    cases p <;> simp only [dat] at e <;> first
      | (cases e; done)
      | (cases e; simp only [RV] at h; subst h; constructor)
      | (split at e
         · cases e
           simp only [RV] at h
           subst h
           constructor
         · cases e)
  | succ n ih =>
    intro p d x e h
    cases p <;> simp only [dat] at e
    all_goals try (first | (cases e; done) | (cases e; simp only [RV] at h; subst h; constructor))
    · split at e
      · cases e
        simp only [RV] at h
        subst h
        constructor
      · cases e
    · split at e
      · rename_i ds hd
        cases e
        obtain ⟨a, vs, rfl, hq, hv⟩ := h
        exact .tup hq (mapO_dp r ih hd hv)
      · cases e
    · split at e
      · rename_i xs hx
        split at e
        · rename_i ds hd
          cases e
          obtain ⟨hk, rfl⟩ := h
          obtain ⟨vs, hq, hv⟩ := r.seq hx
          exact .lst hq (mapO_dp r ih hd hv)
        · cases e
      · cases e
theorem shaped_dat {n : Nat} {p : PV} {d : PyData} (hn : n ≤ 64) (h : dat n st p = some d) : SeqAt.shaped d = true := by
  obtain ⟨h1, h2⟩ := dat_shape n p d h
  unfold SeqAt.shaped
  rw [h1, Bool.true_and]
  exact decide_eq_true (Nat.le_trans h2 hn)
end
/-- == -/
def pEqB (x y : PV) (st : Sto) : Option Bool := match x, y with
  | .int i, .int j => some (decide (i = j))
  | .str a, .str b => some (decide (a = b))
  | .bl a, .bl b => some (a == b)
  | .non, .non => some true
  | x, y => match dat 60 st x with
    | some d => match dat 60 st y with
      | some e => some (PyData.eqv d e)
      | none => none
    | none => none
def pEq (x y : PV) (st : Sto) : Res PV := match pEqB x y st with
  | some b => .ok (.bl b) st
  | none => .bad
def pNe (x y : PV) (st : Sto) : Res PV := match pEqB x y st with
  | some b => .ok (.bl (!b)) st
  | none => .bad
/-- a two-place operation does what a rule of the layer asks -/
def OpOK (J : Jx) (f : PV → PV → Sto → Res PV) (r : R2) : Prop := ∀ (E : XK) (H : Hp) (ρ : Nat → Addr) (st : Sto) (p q : PV) (x y : V) (Q : VK), RSt J.W H ρ st → RV J.W H ρ st.length p x → RV J.W H ρ st.length q y → gE J.W E (f p q st) H ρ st.length Q → r x y H Q
def UnOK (J : Jx) (f : PV → Sto → Res PV) (r : V → Hp → VK → Prop) : Prop := ∀ (E : XK) (H : Hp) (ρ : Nat → Addr) (st : Sto) (p : PV) (x : V) (Q : VK), RSt J.W H ρ st → RV J.W H ρ st.length p x → gE J.W E (f p st) H ρ st.length Q → r x H Q
def CallOK (J : Jx) (f : List PV → Sto → Res PV) (r : List V → Hp → VK → Prop) : Prop := ∀ (E : XK) (H : Hp) (ρ : Nat → Addr) (st : Sto) (ps : List PV) (xs : List V) (Q : VK), RSt J.W H ρ st → RVs J.W H ρ st.length ps xs → gE J.W E (f ps st) H ρ st.length Q → r xs H Q
theorem str_inj {a b : List Nat} : decide (V.str ⟨a.toArray⟩ = V.str ⟨b.toArray⟩) = decide (a = b) := by
  by_cases h : a = b
  · subst h
    simp
  · have h2 : ¬ (V.str ⟨a.toArray⟩ = V.str ⟨b.toArray⟩) := fun z => by
      injection z with z
      injection z with z
      exact h (by simpa using z)
    rw [decide_eq_false h, decide_eq_false h2]
section
variable {J : Jx}
def rEqA (K : PySem.W.Frag) : R2 := fun x y H Q => rEq x y H Q ∨ rEqD K x y H Q
def rNeA (K : PySem.W.Frag) : R2 := fun x y H Q => rNe x y H Q ∨ rNeD K x y H Q
theorem eqB_ok {W : Wd} {H : Hp} {ρ : Nat → Addr} {st : Sto} {p q : PV} {x y : V} {b : Bool} (r : RSt W H ρ st) (hx : RV W H ρ st.length p x) (hy : RV W H ρ st.length q y) (h : pEqB p q st = some b) :
    (scal x y = true ∧ decide (x = y) = b) ∨ ∃ d e, Dp W.K H x d ∧ Dp W.K H y e ∧ SeqAt.shaped d = true ∧ SeqAt.shaped e = true ∧ PyData.eqv d e = b := by
  unfold pEqB at h
  split at h
  · cases h
    simp only [RV] at hx hy
    subst hx hy
    refine .inl ⟨rfl, ?_⟩
    rw [dec_int, Bool.beq_eq_decide_eq]
  · cases h
    simp only [RV] at hx hy
    subst hx hy
    exact .inl ⟨rfl, str_inj⟩
  · cases h
    simp only [RV] at hx hy
    subst hx hy
    exact .inl ⟨rfl, dec_bl⟩
  · cases h
    simp only [RV] at hx hy
    subst hx hy
    exact .inl ⟨rfl, by simp⟩
  · split at h
    · rename_i d hd
      split at h
      · rename_i e he
        cases h
        exact .inr ⟨d, e, dat_dp r _ _ _ _ hd hx, dat_dp r _ _ _ _ he hy, shaped_dat (by decide) hd, shaped_dat (by decide) he, rfl⟩
      · cases h
    · cases h
theorem ok_eq : OpOK J pEq (rEqA J.W.K) := by
  intro E H ρ st p q x y Q r hx hy g
  unfold pEq at g
  cases e : pEqB p q st with
  | none =>
    rw [e] at g
    exact g.elim
  | some b =>
    rw [e] at g
    have hQ : Q (.bl b) H := g H ρ (.bl b) (.refl r) rfl
    rcases eqB_ok r hx hy e with ⟨h1, h2⟩ | ⟨d, e', h1, h2, h3, h4, h5⟩
    · exact .inl ⟨h1, by rw [h2]; exact hQ⟩
    · exact .inr ⟨d, e', h1, h2, h3, h4, by rw [h5]; exact hQ⟩
theorem ok_ne : OpOK J pNe (rNeA J.W.K) := by
  intro E H ρ st p q x y Q r hx hy g
  unfold pNe at g
  cases e : pEqB p q st with
  | none =>
    rw [e] at g
    exact g.elim
  | some b =>
    rw [e] at g
    have hQ : Q (.bl (!b)) H := g H ρ (.bl (!b)) (.refl r) rfl
    rcases eqB_ok r hx hy e with ⟨h1, h2⟩ | ⟨d, e', h1, h2, h3, h4, h5⟩
    · exact .inl ⟨h1, by rw [h2]; exact hQ⟩
    · exact .inr ⟨d, e', h1, h2, h3, h4, by rw [h5]; exact hQ⟩
/-- order -/
def pCmp (f : Int → Int → Bool) (g : List Nat → List Nat → Bool) (x y : PV) (st : Sto) : Res PV := match x, y with
  | .int i, .int j => .ok (.bl (f i j)) st
  | .str a, .str b => .ok (.bl (g a b)) st
  | _, _ => .bad
def pLt := pCmp (fun i j => decide (i < j)) (fun a b => decide (a < b))
def pLe := pCmp (fun i j => decide (i ≤ j)) (fun a b => !decide (b < a))
def pGt := pCmp (fun i j => decide (j < i)) (fun a b => decide (b < a))
def pGe := pCmp (fun i j => decide (j ≤ i)) (fun a b => !decide (a < b))
def rCmpA (f : Int → Int → Bool) (g : List Nat → List Nat → Bool) : R2 := fun x y H Q => (∃ i j, x = .int i ∧ y = .int j ∧ Q (.bl (f i j)) H) ∨ ∃ i j, x = .str i ∧ y = .str j ∧ Q (.bl (g i.cps.toList j.cps.toList)) H
theorem ok_cmp {f : Int → Int → Bool} {g : List Nat → List Nat → Bool} : OpOK J (pCmp f g) (rCmpA f g) := by
  intro E H ρ st p q x y Q r hx hy h
  unfold pCmp at h
  split at h
  · simp only [RV] at hx hy
    subst hx hy
    exact .inl ⟨_, _, rfl, rfl, h H ρ _ (.refl r) rfl⟩
  · simp only [RV] at hx hy
    subst hx hy
    exact .inr ⟨_, _, rfl, rfl, h H ρ _ (.refl r) rfl⟩
  · exact h.elim
/-- is None -/
def pIsN (x y : PV) (st : Sto) : Res PV := match y with
  | .non => (match x with
    | .non => .ok (.bl true) st
    | _ => .ok (.bl false) st)
  | _ => .bad
def pNotN (x y : PV) (st : Sto) : Res PV := match y with
  | .non => (match x with
    | .non => .ok (.bl false) st
    | _ => .ok (.bl true) st)
  | _ => .bad
theorem non_iff {W : Wd} {H : Hp} {ρ : Nat → Addr} {n : Nat} {p : PV} {x : V} (h : RV W H ρ n p x) : decide (x = .non) = (match p with | .non => true | _ => false) := by
  cases p with
  | non =>
    simp only [RV] at h
    subst h
    rfl
  | tup xs =>
    obtain ⟨a, vs, rfl, _⟩ := h
    rfl
  | ref k =>
    obtain ⟨_, rfl⟩ := h
    rfl
  | fn k =>
    obtain ⟨_, _, rfl⟩ := h
    rfl
  | _ =>
    simp only [RV] at h
    subst h
    rfl
theorem ok_isN : OpOK J pIsN (fun x y H Q => y = .non ∧ Q (.bl (decide (x = .non))) H) := by
  intro E H ρ st p q x y Q r hx hy h
  unfold pIsN at h
  split at h
  · simp only [RV] at hy
    subst hy
    refine ⟨rfl, ?_⟩
    rw [non_iff hx]
    cases p <;> exact h H ρ _ (.refl r) rfl
  · exact h.elim
theorem ok_notN : OpOK J pNotN (fun x y H Q => y = .non ∧ Q (.bl (!decide (x = .non))) H) := by
  intro E H ρ st p q x y Q r hx hy h
  unfold pNotN at h
  split at h
  · simp only [RV] at hy
    subst hy
    refine ⟨rfl, ?_⟩
    rw [non_iff hx]
    cases p <;> exact h H ρ _ (.refl r) rfl
  · exact h.elim
end
end Mi
end
section
set_option maxRecDepth 100000
set_option maxHeartbeats 4000000
namespace Mi
open PySem PySem.Spec PyProof.Rows L2
section
variable {J : Jx}
/-! ### arithmetic -/
def pAdd (x y : PV) (st : Sto) : Res PV := match x, y with
  | .int i, .int j => .ok (.int (i + j)) st
  | .int i, .bl k => .ok (.int (i + b2i k)) st
  | .str a, .str b => if szOk (a.length + b.length) = true then .ok (.str (a ++ b)) st else .bad
  | .tup a, .tup b => if szOk (a.length + b.length) = true then .ok (.tup (a ++ b)) st else .bad
  | .ref a, .ref b => match st[a]? with
    | some (.lst xs) => match st[b]? with
      | some (.lst ys) => if szOk (xs.length + ys.length) = true then .ok (.ref st.length) (st ++ [.lst (xs ++ ys)]) else .bad
      | _ => .bad
    | _ => .bad
  | _, _ => .bad
def rAddA (K : PySem.W.Frag) : R2 := fun x y H Q => rI0 (fun i j => .int (i + j)) x y H Q ∨ (∃ i k, x = .int i ∧ y = .bl k ∧ Q (.int (i + b2i k)) H) ∨ (∃ i j, x = .str i ∧ y = .str j ∧ i.length + j.length ≤ sizeLine ∧ Q (.str (i ++ j)) H) ∨ rCatA K x y H Q ∨ rCat x y H Q
theorem str_app (a b : List Nat) : (⟨(a ++ b).toArray⟩ : Str) = (⟨a.toArray⟩ : Str) ++ ⟨b.toArray⟩ := by
  show (⟨(a ++ b).toArray⟩ : Str) = ⟨a.toArray ++ b.toArray⟩
  simp
theorem str_len (a : List Nat) : (⟨a.toArray⟩ : Str).length = a.length := by
  show a.toArray.size = a.length
  simp
theorem ok_add : OpOK J pAdd (rAddA J.W.K) := by
  intro E H ρ st p q x y Q r hx hy h
  unfold pAdd at h
  split at h
  · simp only [RV] at hx hy
    subst hx hy
    exact .inl ⟨_, _, rfl, rfl, h H ρ _ (.refl r) rfl⟩
  · simp only [RV] at hx hy
    subst hx hy
    exact .inr (.inl ⟨_, _, rfl, rfl, h H ρ _ (.refl r) rfl⟩)
  · split at h
    · rename_i a b hz
      simp only [RV] at hx hy
      subst hx hy
      exact .inr (.inr (.inl ⟨_, _, rfl, rfl, by rw [str_len, str_len]; exact szOk_le hz, by rw [← str_app]; exact h H ρ _ (.refl r) rfl⟩))
    · exact h.elim
  · split at h
    · rename_i a b hz
      obtain ⟨c, vs, rfl, s1, t1⟩ := hx
      obtain ⟨d, us, rfl, s2, t2⟩ := hy
      refine .inr (.inr (.inr (.inl ⟨c, d, vs, us, rfl, rfl, s1, s2, by rw [← t1.length, ← t2.length]; exact szOk_le hz, fun e => ?_, fun _ e => ?_, fun _ _ w hw => ?_⟩)))
      · refine h H ρ _ (.refl r) ⟨d, us, rfl, s2, ?_⟩
        have := t1.append t2
        rw [e] at this
        exact this
      · refine h H ρ _ (.refl r) ⟨c, vs, rfl, s1, ?_⟩
        have := t1.append t2
        rw [e, List.append_nil] at this
        exact this
      · exact h _ ρ _ (.newT r hw) (rv_newT hw (t1.append t2))
    · exact h.elim
  · split at h
    · rename_i xs e1
      split at h
      · rename_i ys e2
        split at h
        · rename_i hz
          obtain ⟨_, rfl⟩ := hx
          obtain ⟨_, rfl⟩ := hy
          obtain ⟨vs, a1, a2⟩ := r.lst e1
          obtain ⟨us, b1, b2⟩ := r.lst e2
          refine .inr (.inr (.inr (.inr ⟨_, _, vs, us, rfl, rfl, a1, b1, by rw [← a2.length, ← b2.length]; exact szOk_le hz, fun w hw => ?_⟩)))
          exact h _ _ _ (.newL r hw (a2.append b2)) ⟨by simp, by rw [put_same]⟩
        · exact h.elim
      · exact h.elim
    · exact h.elim
  · exact h.elim
def pInt (C : Int → Int → Bool) (f : Int → Int → Int) (x y : PV) (st : Sto) : Res PV := match x, y with
  | .int i, .int j => if C i j = true then .ok (.int (f i j)) st else .bad
  | _, _ => .bad
theorem ok_int {C : Int → Int → Bool} {f : Int → Int → Int} {P : Int → Int → Prop} (hp : ∀ i j, C i j = true → P i j) : OpOK J (pInt C f) (rI P fun i j => .int (f i j)) := by
  intro E H ρ st p q x y Q r hx hy h
  unfold pInt at h
  split at h
  · split at h
    · rename_i hc
      simp only [RV] at hx hy
      subst hx hy
      exact ⟨_, _, rfl, rfl, hp _ _ hc, h H ρ _ (.refl r) rfl⟩
    · exact h.elim
  · exact h.elim
def pSub := pInt (fun _ _ => true) fun i j => i - j
def cMul (i j : Int) : Bool := decide (i.natAbs.log2 + j.natAbs.log2 < 1000000)
def cPos (_ j : Int) : Bool := decide (0 < j)
def cDiv (_ j : Int) : Bool := decide (0 < j) && decide (j.natAbs.log2 < 9000)
def cPow (i j : Int) : Bool := decide (0 ≤ j) && decide ((Builtin.Int.intBits i : Int) * j ≤ 2 ^ 27)
def pFdiv := pInt cDiv fun i j => i / j
def pMod := pInt cPos fun i j => i % j
def pPow := pInt cPow fun i j => i ^ j.toNat
theorem op_powB {X : Cx} : OpR X (binaryOp .Pow) (rI (fun i j => 0 ≤ j ∧ (Builtin.Int.intBits i : Int) * j ≤ 2 ^ 27) fun i j => .int (i ^ j.toNat)) := opI fun _ _ _ _ _ _ _ hc q => pow_int hc.1 hc.2 q
theorem op_subT {X : Cx} : OpR X (binaryOp .Sub) (rI (fun _ _ => True) fun i j => .int (i - j)) := opI fun _ _ _ _ _ _ _ _ q => sub_int q
theorem ok_sub : OpOK J pSub (rI (fun _ _ => True) fun i j => .int (i - j)) := ok_int fun _ _ _ => trivial
theorem ok_fdiv : OpOK J pFdiv (rI CDivW fun i j => .int (i / j)) := ok_int fun i j h => by
  unfold cDiv at h
  rw [Bool.and_eq_true] at h
  exact ⟨of_decide_eq_true h.1, of_decide_eq_true h.2⟩
theorem ok_mod : OpOK J pMod (rI (fun _ j => 0 < j) fun i j => .int (i % j)) := ok_int fun i j h => of_decide_eq_true h
theorem ok_pow : OpOK J pPow (rI (fun i j => 0 ≤ j ∧ (Builtin.Int.intBits i : Int) * j ≤ 2 ^ 27) fun i j => .int (i ^ j.toNat)) := ok_int fun i j h => by
  unfold cPow at h
  rw [Bool.and_eq_true] at h
  exact ⟨of_decide_eq_true h.1, of_decide_eq_true h.2⟩
def cRep (n : Nat) (k : Int) : Bool := Nat.blt 0 n && decide (2 ≤ k) && Nat.ble (n * k.toNat) 1000000
def pMul (x y : PV) (st : Sto) : Res PV := match x, y with
  | .int i, .int j => if cMul i j = true then .ok (.int (i * j)) st else .bad
  | .ref a, .int k => match st[a]? with
    | some (.lst xs) => if (decide (-(2 ^ 63) ≤ k) && decide (k < 2 ^ 63) && szOk (xs.length * k.toNat)) = true then .ok (.ref st.length) (st ++ [.lst (List.replicate k.toNat xs).flatten]) else .bad
    | _ => .bad
  | .tup xs, .int k => if cRep xs.length k = true then .ok (.tup (List.replicate k.toNat xs).flatten) st else .bad
  | .str s, .int k => if cRep s.length k = true then .ok (.str (List.replicate k.toNat s).flatten) st else .bad
  | _, _ => .bad
def rRepS : R2 := fun x y H Q => ∃ (s : List Nat) (k : Int), x = .str ⟨s.toArray⟩ ∧ y = .int k ∧ cRep s.length k = true ∧ Q (.str ⟨(List.replicate k.toNat s).flatten.toArray⟩) H
theorem cRep_of {n : Nat} {k : Int} (h : cRep n k = true) : 0 < n ∧ 2 ≤ k ∧ n * k.toNat ≤ 1000000 ∧ n ≤ 1000000 ∧ k ≤ 1000000 := by
  unfold cRep at h
  rw [Bool.and_eq_true, Bool.and_eq_true] at h
  have h1 : 0 < n := Nat.le_of_ble_eq_true h.1.1
  have h2 : 2 ≤ k := of_decide_eq_true h.1.2
  have h3 : n * k.toNat ≤ 1000000 := Nat.le_of_ble_eq_true h.2
  have h4 : n * 1 ≤ n * k.toNat := Nat.mul_le_mul_left _ (by omega)
  have h5 : 1 * k.toNat ≤ n * k.toNat := Nat.mul_le_mul_right _ h1
  exact ⟨h1, h2, h3, by omega, by omega⟩
/-- a tuple, many times over -/
def rRepTB (K : PySem.W.Frag) : R2 := fun x y H Q => ∃ l k xs, x = .ref l ∧ y = .int k ∧ SqT K H l xs ∧ cRep xs.length k = true ∧ ∀ p, H p = none → Q (.ref p) (upd H p (.tup (List.replicate k.toNat xs).flatten))
theorem op_repTB {X : Cx} : OpR X (binaryOp .Mult) (rRepTB X.K) := by
  intro pins s σ H x y v u Q I rx ry h
  obtain ⟨l, k, xs, rfl, rfl, hT, hcr, q⟩ := h
  obtain ⟨h1, h2, h3, h4, h5⟩ := cRep_of hcr
  cases rx
  obtain ⟨t, rfl⟩ := ry
  obtain ⟨its, r, ⟨⟨cls, dd, data, sl⟩, ho, hc, n, hd⟩, hs⟩ := I.tuple hT
  simp only at hc hd
  subst hc hd
  have hle := r.length
  have hi : its.toArray.isEmpty = false := by
    cases its with
    | nil =>
      rw [List.length_nil] at hle
      omega
    | cons a b => rfl
  have hz : its.toArray.size = xs.length := by rw [List.size_toArray, hle]
  have hm : ((its.toArray.size : Nat) : Int) * k ≤ 1000000 := by
    rw [hz, show k = ((k.toNat : Nat) : Int) by omega, ← Int.natCast_mul]
    omega
  have hfl : (List.replicate k.toNat its).flatten.length ≤ 1000000 := by
    rw [PyProof.Rows.lm_len_rep_flat, ← hle, Nat.mul_comm]
    exact h3
  have hfx : (List.replicate k.toNat xs).flatten.length ≤ 1000000 := by
    rw [PyProof.Rows.lm_len_rep_flat, Nat.mul_comm]
    exact h3
  have a0 : (decide (k < -(2 ^ 63)) || decide (k ≥ 2 ^ 63)) = false := by rw [decide_eq_false (by omega), decide_eq_false (by omega)]; rfl
  have a1 : (its.toArray.isEmpty || k == 1) = false := by rw [hi]; exact beq_eq_false_iff_ne.mpr (by omega)
  have a2 : (decide (k ≤ 0) || its.toArray.isEmpty) = false := by rw [hi, decide_eq_false (by omega)]; rfl
  have a4 : Builtin.Tuple.tupleTooMany (((its.toArray.size : Nat) : Int) * k) = false := by unfold Builtin.Tuple.tupleTooMany; rw [sizeLine_eq]; exact decide_eq_false (by omega)
  have inner := tuple_mulW l its.toArray n dd sl k t a0 a1 a2 (by omega) a4 (by rw [size_rep, List.size_toArray, sizeLine_eq]; omega)
  refine wpAny_binaryOp_repeat_ref (T := "tuple") (U := "int") (by decide) ⟨_, ho, rfl⟩ (fun s' => typeIs_int s' k t) noFill_tuple_mul F.fills_int_mul F.slot_int_rmul repeat_tuple F.slot_int_index.lookup (call_meets F.slot_int_rmul (typeIs_int s k t) F.entry_int_rmul (F.args_int_rmul_2 _ _) (int_rmul_tuple k t l its.toArray n dd sl) ⟨ho, rfl, ⟨_, ho, rfl⟩, call_meets F.slot_tuple_mul ⟨_, ho, rfl⟩ F.entry_tuple_mul (F.args_tuple_mul_2 _ _) inner ⟨ho, ?_⟩⟩)
  rw [size_rep]
  exact ⟨.ref s.heap.objs.size, _, I.laid (t' := s.toks) (o := .tup (List.replicate k.toNat xs).flatten) (fun b ob q => Heap.get?_push_of_some _ q) (Nat.le_refl _) ⟨by rw [sizeLine_eq]; omega, _, r.rep k.toNat, IsTup.new _ _⟩, rfl, q _ (I.hok.fresh (Nat.le_refl _))⟩
def rMulA (K : PySem.W.Frag) : R2 := fun x y H Q => rI CMulW (fun i j => .int (i * j)) x y H Q ∨ rRep x y H Q ∨ rRepTB K x y H Q ∨ rRepS x y H Q
theorem fold_repN (s : List Nat) : ∀ (k : Nat) (acc : List Nat), List.foldl (fun x1 x2 => x1 ++ x2) acc.toArray (List.replicate k s.toArray) = (acc ++ (List.replicate k s).flatten).toArray
  | 0, acc => by simp
  | k + 1, acc => by
    rw [List.replicate_succ, List.foldl_cons, List.replicate_succ, List.flatten_cons, ← List.append_assoc, ← fold_repN s k (acc ++ s)]
    congr 1
    simp
theorem op_repS {X : Cx} : OpR X (binaryOp .Mult) rRepS := by
  intro pins s σ H x y v u Q I rx ry h
  obtain ⟨z, k, rfl, rfl, hc, q⟩ := h
  obtain ⟨t, rfl⟩ := rx
  obtain ⟨t', rfl⟩ := ry
  obtain ⟨h1, h3, h6, h2, h4⟩ := cRep_of hc
  have hl : (⟨z.toArray⟩ : Str).length = z.length := by
    show z.toArray.size = _
    simp
  have e : Txt.mul ⟨z.toArray⟩ k = ⟨(List.replicate k.toNat z).flatten.toArray⟩ := by
    unfold Txt.mul
    rw [if_neg (by omega), if_neg (fun hh => by
      rw [Bool.or_eq_true, beq_iff_eq, beq_iff_eq, hl] at hh
      omega)]
    congr 1
    have := fold_repN z k.toNat []
    rw [List.nil_append] at this
    exact this
  refine SB.mul ⟨?_, fun _ _ => ?_, fun _ _ => ?_⟩ fun t'' tk => ?_
  · rw [decide_eq_false (by omega), decide_eq_false (by omega)]
    rfl
  · rw [hl]
    have h5 : (1000000 : Int) ≤ (2 ^ 63 - 1) / k := by
      rw [Int.le_ediv_iff_mul_le (by omega)]
      omega
    omega
  · rw [hl]
    unfold Builtin.Str.tooLong
    refine decide_eq_false ?_
    rw [sizeLine_eq]
    omega
  · rw [e]
    exact ⟨.str _, H, I.tok _, ⟨_, rfl⟩, q⟩
theorem RVs.rep {W : Wd} {H : Hp} {ρ : Nat → Addr} {n : Nat} {ps : List PV} {vs : List V} (h : RVs W H ρ n ps vs) : ∀ k : Nat, RVs W H ρ n (List.replicate k ps).flatten (List.replicate k vs).flatten
  | 0 => rfl
  | k + 1 => by
    rw [List.replicate_succ, List.replicate_succ, List.flatten_cons, List.flatten_cons]
    exact h.append (h.rep k)
theorem ok_mul : OpOK J pMul (rMulA J.W.K) := by
  intro E H ρ st p q x y Q r hx hy h
  unfold pMul at h
  split at h
  · split at h
    · rename_i hc
      simp only [RV] at hx hy
      subst hx hy
      unfold cMul at hc
      have hc2 := of_decide_eq_true hc
      exact .inl ⟨_, _, rfl, rfl, hc2, h H ρ _ (.refl r) rfl⟩
    · exact h.elim
  · split at h
    · rename_i xs e1
      split at h
      · rename_i hc
        rw [Bool.and_eq_true, Bool.and_eq_true] at hc
        obtain ⟨⟨h1, h2⟩, h3⟩ := hc
        obtain ⟨_, rfl⟩ := hx
        simp only [RV] at hy
        subst hy
        obtain ⟨vs, a1, a2⟩ := r.lst e1
        refine .inr (.inl ⟨_, _, vs, rfl, rfl, a1, of_decide_eq_true h1, of_decide_eq_true h2, by rw [← a2.length]; exact szOk_le h3, fun w hw => ?_⟩)
        exact h _ _ _ (.newL r hw (a2.rep _)) ⟨by simp, by rw [put_same]⟩
      · exact h.elim
    · exact h.elim
  · split at h
    · rename_i hc
      obtain ⟨a, vs, rfl, s1, t1⟩ := hx
      simp only [RV] at hy
      subst hy
      rw [t1.length] at hc
      exact .inr (.inr (.inl ⟨a, _, vs, rfl, rfl, s1, hc, fun w hw => h _ ρ _ (.newT r hw) (rv_newT hw (t1.rep _))⟩))
    · exact h.elim
  · split at h
    · rename_i hc
      simp only [RV] at hx hy
      subst hx hy
      exact .inr (.inr (.inr ⟨_, _, rfl, rfl, hc, h H ρ _ (.refl r) rfl⟩))
    · exact h.elim
  · exact h.elim
def pNeg (x : PV) (st : Sto) : Res PV := match x with
  | .int i => .ok (.int (-i)) st
  | _ => .bad
theorem ok_neg : UnOK J pNeg (rU fun i => .int (-i)) := by
  intro E H ρ st p x Q r hx h
  unfold pNeg at h
  split at h
  · simp only [RV] at hx
    subst hx
    exact ⟨_, rfl, h H ρ _ (.refl r) rfl⟩
  · exact h.elim
/-! ### subscripts -/
def pIx (x y : PV) (st : Sto) : Res PV := match y with
  | .int i => match x with
    | .tup xs => match atI xs i with
      | some v => .ok v st
      | none => .bad
    | .str s => if szOk s.length = true then (match atI s i with
      | some c => .ok (.str [c]) st
      | none => .bad) else .bad
    | .ref k => match lstAt st k with
      | some xs => match atI xs i with
        | some v => .ok v st
        | none => .bad
      | none => .bad
    | _ => .bad
  | _ => .bad
theorem atI_rel {W : Wd} {H : Hp} {ρ : Nat → Addr} {n : Nat} {ps : List PV} {vs : List V} {i : Int} {p : PV} (h : RVs W H ρ n ps vs) (e : atI ps i = some p) : ∃ v, atI vs i = some v ∧ RV W H ρ n p v := by
  unfold atI at e ⊢
  rw [← h.length]
  cases hj : ixN ps.length i with
  | none =>
    rw [hj] at e
    cases e
  | some j =>
    rw [hj] at e
    exact h.get e
theorem ok_ix : OpOK J pIx (rIx J.W.K) := by
  intro E H ρ st p q x y Q r hx hy h
  unfold pIx at h
  split at h
  · rename_i i
    simp only [RV] at hy
    subst hy
    split at h
    · split at h
      · rename_i v ev
        obtain ⟨a, vs, rfl, s, t⟩ := hx
        obtain ⟨w, e, rw'⟩ := atI_rel t ev
        exact .inr (.inl ⟨a, vs, i, w, rfl, rfl, s, e, h H ρ w (.refl r) rw'⟩)
      · exact h.elim
    · split at h
      · rename_i hz
        split at h
        · rename_i c ec
          simp only [RV] at hx
          subst hx
          exact .inr (.inr ⟨_, i, c, rfl, rfl, by rw [str_len]; exact szOk_le hz, by simpa using ec, h H ρ _ (.refl r) rfl⟩)
        · exact h.elim
      · exact h.elim
    · split at h
      · rename_i xs hl
        split at h
        · rename_i v ev
          obtain ⟨_, rfl⟩ := hx
          obtain ⟨vs, s, t⟩ := r.seq hl
          obtain ⟨w, e, rw'⟩ := atI_rel t ev
          exact .inl ⟨_, vs, i, w, rfl, rfl, s, e, h H ρ w (.refl r) rw'⟩
        · exact h.elim
      · exact h.elim
    · exact h.elim
  · exact h.elim
/-! ### truth -/
def pTru (x : PV) (st : Sto) : Option Bool := match x with
  | .non => some false
  | .bl b => some b
  | .int i => some (i != 0)
  | .str s => if szOk s.length = true then some (!s.isEmpty) else none
  | .tup xs => some (!xs.isEmpty)
  | .ref k => match st[k]? with
    | some (.lst xs) => some (!xs.isEmpty)
    | some (.fz xs) => some (!xs.isEmpty)
    | some (.dct xs) => some (!xs.isEmpty)
    | none => none
  | _ => none
theorem RVs.emp {W : Wd} {H : Hp} {ρ : Nat → Addr} {n : Nat} {ps : List PV} {vs : List V} (h : RVs W H ρ n ps vs) : vs.isEmpty = ps.isEmpty := by
  cases ps with
  | nil =>
    have h : vs = [] := h
    subst h
    rfl
  | cons p ps =>
    obtain ⟨v, r, rfl, _⟩ := h
    rfl
theorem tru_V {W : Wd} {H : Hp} {ρ : Nat → Addr} {st : Sto} {p : PV} {x : V} {b : Bool} (r : RSt W H ρ st) (hx : RV W H ρ st.length p x) (h : pTru p st = some b) : TruV W.K x H b := by
  unfold pTru at h
  split at h
  · cases h
    simp only [RV] at hx
    subst hx
    rfl
  · cases h
    simp only [RV] at hx
    subst hx
    rfl
  · cases h
    simp only [RV] at hx
    subst hx
    rfl
  · split at h
    · rename_i s hz
      cases h
      simp only [RV] at hx
      subst hx
      refine ⟨by rw [str_len]; exact szOk_le hz, ?_⟩
      rw [str_len]
      cases s with
      | nil => rfl
      | cons c s =>
        show true = _
        symm
        rw [bne_iff_ne]
        simp only [List.length_cons]
        omega
    · cases h
  · cases h
    obtain ⟨a, vs, rfl, s, t⟩ := hx
    exact .inr (.inl ⟨vs, s, by rw [t.emp]⟩)
  · obtain ⟨_, rfl⟩ := hx
    split at h
    · rename_i xs e
      cases h
      obtain ⟨vs, h1, h2⟩ := r.obj _ _ e
      exact .inl ⟨vs, .of h1, by rw [h2.emp]⟩
    · rename_i xs e
      cases h
      obtain ⟨vs, h1, h2⟩ := r.obj _ _ e
      exact .inl ⟨vs, h1.sq, by rw [h2.emp]⟩
    · rename_i xs e
      cases h
      obtain ⟨vs, h1, h2⟩ := r.obj _ _ e
      refine .inr (.inr ⟨vs, h1, ?_⟩)
      cases xs with
      | nil =>
        have h2 : vs = [] := h2
        subst h2
        rfl
      | cons q xs =>
        obtain ⟨v, w, rfl, _⟩ := h2
        rfl
    · cases h
  · cases h
end
end Mi
end
section
set_option maxRecDepth 100000
set_option maxHeartbeats 4000000
namespace Mi
open PySem PySem.Spec PyProof.Rows L2
/-! ### combinators -/
def dVar (i : Nat) : DE := fun _ env st => match env[i]? with
  | some (some p) => .ok p st
  | _ => .bad
def dC (p : PV) : DE := fun _ _ st => .ok p st
def dBin (f : PV → PV → Sto → Res PV) (a b : DE) : DE := fun th env st => (a th env st).bind fun x st1 => (b th env st1).bind fun y st2 => f x y st2
def dUn (f : PV → Sto → Res PV) (a : DE) : DE := fun th env st => (a th env st).bind fun x st1 => f x st1
def dNil : DL := fun _ _ st => .ok [] st
def dCons (a : DE) (r : DL) : DL := fun th env st => (a th env st).bind fun x st1 => (r th env st1).bind fun xs st2 => .ok (x :: xs) st2
def dApp (f : List PV → Sto → Res PV) (a : DL) : DE := fun th env st => (a th env st).bind fun xs st1 => f xs st1
def dMet (ty : PV → Sto → Bool) (f : PV → List PV → Sto → Res PV) (o : DE) (a : DL) : DE := fun th env st => (o th env st).bind fun x st1 => if ty x st1 = true then (a th env st1).bind fun xs st2 => f x xs st2 else .bad
def fTup (xs : List PV) (st : Sto) : Res PV := if szOk xs.length = true then .ok (.tup xs) st else .bad
def fLst (xs : List PV) (st : Sto) : Res PV := if szOk xs.length = true then .ok (.ref st.length) (st ++ [.lst xs]) else .bad
/-- tests -/
def dTst (a : DE) : DB := fun th env st => (a th env st).bind fun x st1 => match pTru x st1 with
  | some b => .ok b st1
  | none => .bad
def dTB (a : DE) : DB := fun th env st => (a th env st).bind fun x st1 => match x with
  | .bl b => .ok b st1
  | _ => .bad
def dAndT (a b : DB) : DB := fun th env st => (a th env st).bind fun x st1 => match x with
  | true => b th env st1
  | false => .ok false st1
def dOrT (a b : DB) : DB := fun th env st => (a th env st).bind fun x st1 => match x with
  | true => .ok true st1
  | false => b th env st1
def dNotT (a : DB) : DB := fun th env st => (a th env st).bind fun x st1 => .ok (!x) st1
def dAnd (a b : DE) : DE := fun th env st => (a th env st).bind fun x st1 => match x with
  | .bl true => b th env st1
  | .bl false => .ok (.bl false) st1
  | _ => .bad
def dOr (a b : DE) : DE := fun th env st => (a th env st).bind fun x st1 => match x with
  | .bl true => .ok (.bl true) st1
  | .bl false => b th env st1
  | _ => .bad
def dNot (a : DE) : DE := fun th env st => (a th env st).bind fun x st1 => match pTru x st1 with
  | some b => .ok (.bl (!b)) st1
  | none => .bad
def dIf (c : DB) (a b : DE) : DE := fun th env st => (c th env st).bind fun x st1 => match x with
  | true => a th env st1
  | false => b th env st1
/-- a op b op c -/
def dChain (f g : PV → PV → Sto → Res PV) (a b c : DE) : DE := fun th env st => (a th env st).bind fun x st1 => (b th env st1).bind fun y st2 => (f x y st2).bind fun z st3 => match z with
  | .bl true => (c th env st3).bind fun w st4 => g y w st4
  | .bl false => .ok (.bl false) st3
  | _ => .bad

section
variable {X : Cx} {J : Jx}
structure XJ (X : Cx) (J : Jx) : Prop where
  K : J.W.K = X.K
  st : J.tr.Stays J.W
  tk : Takes X J.Wx
variable {a b c : Expr} {da db dc : DE} {pos : Pos}
theorem xe_var {i : Nat} {x : Str} (hN : X.N[i]? = some x) (hv : Vis X.env.scope x) (hd : (x == ("__debug__" : Str)) = false := by decide) (hcd : (x == ("__classdict__" : Str)) = false := by decide) : PE X (.Name x pos) (rdE J (dVar i)) :=
  PE.imp (pe_var hN hv hd hcd) fun σ H Q h => by
    obtain ⟨ρ, th, env, st, S, g⟩ := h
    unfold dVar at g
    split at g
    · rename_i p e
      obtain ⟨v, h1, h2⟩ := S.env.get i p e
      exact ⟨v, h1, g H ρ v (.refl S.rs) h2⟩
    · exact g.elim
/-- what stands for itself -/
theorem rd_c {p : PV} {v : V} (hp : ∀ H ρ n, RV J.W H ρ n p v) {σ : L2.St} {H : Hp} {Q : VK} (h : rdE J (dC p) σ H Q) : Q v H := by
  obtain ⟨ρ, th, env, st, S, g⟩ := h
  exact g H ρ v (.refl S.rs) (hp _ _ _)
theorem xe_int {i : Int} {j} : PE X (.Constant (.int i) j pos) (rdE J (dC (.int i))) := PE.imp pe_int fun _ _ _ h => rd_c (p := .int i) (v := .int i) (fun _ _ _ => rfl) h
theorem xe_bl {i : Bool} {j} : PE X (.Constant (.bool i) j pos) (rdE J (dC (.bl i))) := PE.imp pe_bl fun _ _ _ h => rd_c (p := .bl i) (v := .bl i) (fun _ _ _ => rfl) h
theorem xe_non {j} : PE X (.Constant .none j pos) (rdE J (dC .non)) := PE.imp pe_non fun _ _ _ h => rd_c (p := .non) (v := .non) (fun _ _ _ => rfl) h
theorem xe_str {x : Str} {s : List Nat} {j} (hx : x = ⟨s.toArray⟩) : PE X (.Constant (.str x) j pos) (rdE J (dC (.str s))) := PE.imp pe_str fun _ _ _ h => by
  rw [hx]
  exact rd_c (p := .str s) (v := .str ⟨s.toArray⟩) (fun _ _ _ => rfl) h
theorem xe_glob {x : Str} {v : V} {u : Value} {p : PV} (hg : Gl X x) (hm : X.mg x = some u) (r : RelV v u) (hp : ∀ H ρ n, RV J.W H ρ n p v) (hd : (x == ("__debug__" : Str)) = false := by decide) : PE X (.Name x pos) (rdE J (dC p)) :=
  PE.imp (pe_glob hg hm r hd) fun _ _ _ h => rd_c hp h
theorem rd_bin {f : PV → PV → Sto → Res PV} {r : R2} (J2 : XJ X J) (hk : OpOK J f r) {σ : L2.St} {H : Hp} {Q : VK} (h : rdE J (dBin f da db) σ H Q) : tOp r (rdE J da) (rdE J db) σ H Q := by
  refine rd_bind J2.st h fun ρ th env st v x H1 S rv g => ?_
  refine rd_of S (gR.bind g fun w st2 H2 ρ2 y _ s2 r2 g2 => ?_)
  exact hk _ H2 ρ2 st2 v w x y Q s2.rs (s2.rv rv) r2 g2
theorem xe_bin {op : Operator} {f : PV → PV → Sto → Res PV} {r : R2} (J2 : XJ X J) (ho : OpR X (binaryOp op) r) (hk : OpOK J f r) (ha : PE X a (rdE J da)) (hb : PE X b (rdE J db)) : PE X (.BinOp a op b pos) (rdE J (dBin f da db)) :=
  PE.imp (pe_op ho ha hb) fun _ _ _ h => rd_bin J2 hk h
theorem xe_un {op : UnaryOp} {f : PV → Sto → Res PV} {r : V → Hp → VK → Prop} (J2 : XJ X J) (ho : UnR X (unaryOp op) r) (hk : UnOK J f r) (ha : PE X a (rdE J da)) : PE X (.UnaryOp op a pos) (rdE J (dUn f da)) :=
  PE.imp (pe_un ho ha) fun _ _ _ h => rd_bind J2.st h fun ρ th env st v x H1 S rv g => hk _ H1 ρ st v x _ S.rs rv g
theorem xe_cmp {op : CmpOp} {f : PV → PV → Sto → Res PV} {r : R2} (J2 : XJ X J) (ho : OpR X (compareOp op) r) (hk : OpOK J f r) (ha : PE X a (rdE J da)) (hb : PE X b (rdE J db)) (hm : behindInMarks op b = false) : PE X (.Compare a [op] [b] pos) (rdE J (dBin f da db)) :=
  PE.imp (pe_cmpR ho ha hb hm) fun _ _ _ h => rd_bin J2 hk h
theorem rd_tB {d : DE} (J2 : XJ X J) {σ : L2.St} {H : Hp} {Q : Bool → Hp → Prop} (h : rdB J (dTB d) σ H Q) : rdE J d σ H fun x H' => ∃ k, x = .bl k ∧ Q k H' := by
  refine rd_bind J2.st h fun ρ th env st v x H1 S rv g => ?_
  split at g
  · rename_i b
    have rv : x = .bl b := rv
    subst rv
    exact ⟨b, rfl, g H1 ρ b (.refl S.rs) rfl⟩
  · exact g.elim
theorem xt_cmp {op : CmpOp} {f : PV → PV → Sto → Res PV} {r : R2} (J2 : XJ X J) (ho : OpR X (compareOp op) r) (hk : OpOK J f r) (ha : PE X a (rdE J da)) (hb : PE X b (rdE J db)) (hm : behindInMarks op b = false) : PT X (.Compare a [op] [b] pos) (rdB J (dTB (dBin f da db))) :=
  PT.imp (pt_cmpR ho ha hb hm) fun _ _ _ h => rd_bin J2 hk (rd_tB J2 h)
theorem rd_chain {f g : PV → PV → Sto → Res PV} {r r' : R2} (J2 : XJ X J) (hk : OpOK J f r) (hk' : OpOK J g r') {σ : L2.St} {H : Hp} {Q : VK} (h : rdE J (dChain f g da db dc) σ H Q) : tChain r r' (rdE J da) (rdE J db) (rdE J dc) σ H Q := by
  refine rd_bind J2.st h fun ρ th env st v x H1 S rv g1 => ?_
  refine rd_of S (gR.bind g1 fun w st2 H2 ρ2 y _ s2 r2 g2 => ?_)
  refine hk _ H2 ρ2 st2 v w x y _ s2.rs (s2.rv rv) r2 (gR.bind g2 fun z st3 H3 ρ3 zv _ s3 r3 g3 => ?_)
  have S3 := (S.step J2.st s2).step J2.st s3
  split at g3
  · have r3 : zv = .bl true := r3
    refine ⟨true, r3, ?_⟩
    rw [if_pos rfl]
    refine rd_of S3 (gR.bind g3 fun u st4 H4 ρ4 uv _ s4 r4 g4 => ?_)
    exact hk' _ H4 ρ4 st4 w u y uv Q s4.rs (s4.rv (s3.rv r2)) r4 g4
  · have r3 : zv = .bl false := r3
    refine ⟨false, r3, ?_⟩
    rw [if_neg Bool.false_ne_true]
    exact g3 H3 ρ3 _ (.refl S3.rs) rfl
  · exact g3.elim
theorem xe_chain {op op' : CmpOp} {f g : PV → PV → Sto → Res PV} {r r' : R2} (J2 : XJ X J) (ho : OpR X (compareOp op) r) (ho' : OpR X (compareOp op') r') (hk : OpOK J f r) (hk' : OpOK J g r') (ha : PE X a (rdE J da)) (hb : PE X b (rdE J db)) (hc : PE X c (rdE J dc))
    (hm : lastMarks [op, op'] [b, c] = false) : PE X (.Compare a [op, op'] [b, c] pos) (rdE J (dChain f g da db dc)) :=
  PE.imp (pe_chain ho ho' ha hb hc hm) fun _ _ _ h => rd_chain J2 hk hk' h
theorem xt_chain {op op' : CmpOp} {f g : PV → PV → Sto → Res PV} {r r' : R2} (J2 : XJ X J) (ho : OpR X (compareOp op) r) (ho' : OpR X (compareOp op') r') (hk : OpOK J f r) (hk' : OpOK J g r') (ha : PE X a (rdE J da)) (hb : PE X b (rdE J db)) (hc : PE X c (rdE J dc))
    (hm : lastMarks [op, op'] [b, c] = false) : PT X (.Compare a [op, op'] [b, c] pos) (rdB J (dTB (dChain f g da db dc))) :=
  PT.imp (pt_chain ho ho' ha hb hc hm) fun _ _ _ h => rd_chain J2 hk hk' (rd_tB J2 h)
/-- a test by the truth of a value -/
theorem xt_val (J2 : XJ X J) (ha : PE X a (rdE J da)) (he : ∀ whole, isTrue a X.env whole = (do let v ← whole; standAt a.pos; holding [v] (truthy v)) := by intro _; rfl) : PT X a (rdB J (dTst da)) :=
  PT.imp (pt_truth ha he) fun _ _ _ h => rd_bind J2.st h fun ρ th env st v x H1 S rv g => by
    split at g
    · rename_i b e
      exact ⟨b, by rw [← J2.K]; exact tru_V S.rs rv e, g H1 ρ b (.refl S.rs) rfl⟩
    · exact g.elim
variable {ta tb : DB} {rest : List Expr}
theorem xt_not (J2 : XJ X J) (ha : PT X a (rdB J ta)) : PT X (.UnaryOp .Not a pos) (rdB J (dNotT ta)) :=
  PT.imp (pt_not ha) fun _ _ _ h => rd_bind J2.st h fun ρ th env st v x H1 S rv g => by
    have rv : x = v := rv
    subst rv
    exact g H1 ρ _ (.refl S.rs) rfl
theorem PW.imp {e : Expr} {t t' : TT} (h : PW X e t) (k : ∀ σ H Q, t' σ H Q → t σ H Q) : PW X e t' := ⟨fun wh pins s σ H Q I q => h.run wh pins s σ H Q I (k σ H Q q)⟩
theorem xw_and1 (ha : PT X a (rdB J ta)) : PW X (.BoolOp .And [a] pos) (rdB J ta) := pw_and1 ha
theorem xw_or1 (ha : PT X a (rdB J ta)) : PW X (.BoolOp .Or [a] pos) (rdB J ta) := pw_or1 ha
theorem xw_and (J2 : XJ X J) (ha : PT X a (rdB J ta)) (hb : PW X (.BoolOp .And (b :: rest) pos) (rdB J tb)) : PW X (.BoolOp .And (a :: b :: rest) pos) (rdB J (dAndT ta tb)) :=
  PW.imp (pw_and ha hb) fun _ _ _ h => rd_bind J2.st h fun ρ th env st v x H1 S rv g => by
    have rv : x = v := rv
    subst rv
    cases x with
    | true =>
      rw [if_pos rfl]
      exact rd_of S g
    | false =>
      rw [if_neg Bool.false_ne_true]
      exact g H1 ρ _ (.refl S.rs) rfl
theorem xw_or (J2 : XJ X J) (ha : PT X a (rdB J ta)) (hb : PW X (.BoolOp .Or (b :: rest) pos) (rdB J tb)) : PW X (.BoolOp .Or (a :: b :: rest) pos) (rdB J (dOrT ta tb)) :=
  PW.imp (pw_or ha hb) fun _ _ _ h => rd_bind J2.st h fun ρ th env st v x H1 S rv g => by
    have rv : x = v := rv
    subst rv
    cases x with
    | true =>
      rw [if_pos rfl]
      exact g H1 ρ _ (.refl S.rs) rfl
    | false =>
      rw [if_neg Bool.false_ne_true]
      exact rd_of S g
theorem xe_one {op} (h : PE X a (rdE J da)) : PE X (.BoolOp op [a] pos) (rdE J da) := pe_one h
theorem xe_and (J2 : XJ X J) (ha : PE X a (rdE J da)) (hb : PE X (.BoolOp .And (b :: rest) pos) (rdE J db)) : PE X (.BoolOp .And (a :: b :: rest) pos) (rdE J (dAnd da db)) :=
  PE.imp (pe_and ha hb) fun _ _ _ h => rd_bind J2.st h fun ρ th env st v x H1 S rv g => by
    split at g
    · refine ⟨true, rv, ?_⟩
      rw [if_pos rfl]
      exact rd_of S g
    · refine ⟨false, rv, ?_⟩
      rw [if_neg Bool.false_ne_true]
      exact g H1 ρ _ (.refl S.rs) rfl
    · exact g.elim
theorem xe_or (J2 : XJ X J) (ha : PE X a (rdE J da)) (hb : PE X (.BoolOp .Or (b :: rest) pos) (rdE J db)) : PE X (.BoolOp .Or (a :: b :: rest) pos) (rdE J (dOr da db)) :=
  PE.imp (pe_or ha hb) fun _ _ _ h => rd_bind J2.st h fun ρ th env st v x H1 S rv g => by
    split at g
    · refine ⟨true, rv, ?_⟩
      rw [if_pos rfl]
      exact g H1 ρ _ (.refl S.rs) rfl
    · refine ⟨false, rv, ?_⟩
      rw [if_neg Bool.false_ne_true]
      exact rd_of S g
    · exact g.elim
theorem xe_not (J2 : XJ X J) (ha : PE X a (rdE J da)) : PE X (.UnaryOp .Not a pos) (rdE J (dNot da)) :=
  PE.imp (pe_notT ha) fun _ _ _ h => rd_bind J2.st h fun ρ th env st v x H1 S rv g => by
    split at g
    · rename_i b e
      exact ⟨b, by rw [← J2.K]; exact tru_V S.rs rv e, g H1 ρ _ (.refl S.rs) rfl⟩
    · exact g.elim
theorem xe_if {tc : DB} (J2 : XJ X J) (hc : PT X c (rdB J tc)) (ha : PE X a (rdE J da)) (hb : PE X b (rdE J db)) : PE X (.IfExp c a b pos) (rdE J (dIf tc da db)) :=
  PE.imp (pe_ifExp hc ha hb) fun _ _ _ h => rd_bind J2.st h fun ρ th env st v x H1 S rv g => by
    have rv : x = v := rv
    subst rv
    cases x with
    | true =>
      rw [if_pos rfl]
      exact rd_of S g
    | false =>
      rw [if_neg Bool.false_ne_true]
      exact rd_of S g
/-! ### arguments, displays -/
variable {es : List Expr} {e : Expr} {de : DE} {dl : DL}
theorem xa_nil : PA X [] (rdL J dNil) := PA.imp pa_nil fun _ _ _ h => by
  obtain ⟨ρ, th, env, st, S, g⟩ := h
  exact g _ ρ [] (.refl S.rs) rfl
theorem xa_cons (J2 : XJ X J) (ha : PE X e (rdE J de)) (hr : PA X es (rdL J dl)) (hs : starEach (e :: es) X.env = (false, eval e X.env) :: starEach es X.env := by rfl) : PA X (e :: es) (rdL J (dCons de dl)) :=
  PA.imp (pa_cons ha hr hs) fun _ _ _ h => rd_bind J2.st h fun ρ th env st v x H1 S rv g =>
    rd_of S (gR.bind g fun ps st2 H2 ρ2 xs _ s2 r2 g2 => g2 H2 ρ2 _ (.refl s2.rs) ⟨x, xs, rfl, s2.rv rv, r2⟩)
theorem xe_tup {k} (J2 : XJ X J) (ha : PA X es (rdL J dl)) : PE X (.Tuple es k pos) (rdE J (dApp fTup dl)) :=
  PE.imp (pe_tup ha) fun _ _ _ h => rd_bind J2.st h fun ρ th env st ps xs H1 S rv g => by
    unfold fTup at g
    split at g
    · rename_i hz
      exact ⟨by rw [← rv.length]; exact szOk_le hz, fun p hp => g _ ρ _ (.newT S.rs hp) (rv_newT hp rv)⟩
    · exact g.elim
theorem xe_lst (J2 : XJ X J) (ha : PA X es (rdL J dl)) : PE X (.List es pos) (rdE J (dApp fLst dl)) :=
  PE.imp (pe_lst ha) fun _ _ _ h => rd_bind J2.st h fun ρ th env st ps xs H1 S rv g => by
    unfold fLst at g
    split at g
    · rename_i hz
      exact ⟨by rw [← rv.length]; exact szOk_le hz, fun p hp => g _ _ _ (.newL S.rs hp rv) ⟨by simp, by rw [put_same]⟩⟩
    · exact g.elim
/-! ### subscripts -/
theorem xe_ix (J2 : XJ X J) (ha : PE X a (rdE J da)) (hb : PE X b (rdE J db)) (hs : PlainIx b := by intro _ _; rfl) : PE X (.Subscript a b pos) (rdE J (dBin pIx da db)) :=
  PE.imp (pe_ix ix_seq ha hb hs) fun _ _ _ h => rd_bin J2 (by rw [← J2.K]; exact ok_ix) h
/-! ### calls by name -/
theorem rd_app {f : List PV → Sto → Res PV} {r : List V → Hp → VK → Prop} (J2 : XJ X J) (hk : CallOK J f r) {σ : L2.St} {H : Hp} {Q : VK} (h : rdE J (dApp f dl) σ H Q) : tCB r (rdL J dl) σ H Q :=
  rd_bind J2.st h fun ρ th env st v x H1 S rv g => hk _ H1 ρ st v x _ S.rs rv g
theorem xe_callB {x : Str} {id : String} {f : List PV → Sto → Res PV} {r : List V → Hp → VK → Prop} {p : Pos} (J2 : XJ X J) (hc : CallR X (.builtin id) r) (hk : CallOK J f r) (hg : Gl X x) (hm : X.mg x = none) (hv : bootBuiltins x = some (.builtin id)) (ha : PA X (e :: es) (rdL J dl)) (hn : x ≠ "__name__" := by decide)
    (hdb : (x == ("__debug__" : Str)) = false := by decide) (he : starEach (e :: es) X.env = (false, eval e X.env) :: starEach es X.env := by rfl) (hpl : (backTo pos (starEach es X.env)).any (·.1) = false := by rfl) : PE X (.Call (.Name x p) (e :: es) [] pos) (rdE J (dApp f dl)) :=
  PE.imp (pe_callB hc hg hm hv ha hn hdb he hpl) fun _ _ _ h => rd_app J2 hk h
theorem xe_callTy {x : Str} {T : String} {f : List PV → Sto → Res PV} {r : List V → Hp → VK → Prop} {p : Pos} (J2 : XJ X J) (hc : CallR X (.type T) r) (hk : CallOK J f r) (hg : Gl X x) (hm : X.mg x = none) (hv : bootBuiltins x = some (.type T)) (ha : PA X (e :: es) (rdL J dl)) (hn : x ≠ "__name__" := by decide)
    (hdb : (x == ("__debug__" : Str)) = false := by decide) (he : starEach (e :: es) X.env = (false, eval e X.env) :: starEach es X.env := by rfl) (hpl : (backTo pos (starEach es X.env)).any (·.1) = false := by rfl) : PE X (.Call (.Name x p) (e :: es) [] pos) (rdE J (dApp f dl)) :=
  PE.imp (pe_callTy hc hg hm hv ha hn hdb he hpl) fun _ _ _ h => rd_app J2 hk h
/-! ### methods of built-in types -/
def MetOK (J : Jx) (f : PV → List PV → Sto → Res PV) (r : V → List V → Hp → VK → Prop) : Prop := ∀ (E : XK) (H : Hp) (ρ : Nat → Addr) (st : Sto) (p : PV) (ps : List PV) (x : V) (xs : List V) (Q : VK), RSt J.W H ρ st → RV J.W H ρ st.length p x → RVs J.W H ρ st.length ps xs → gE J.W E (f p ps st) H ρ st.length Q → r x xs H Q
def TyOK (J : Jx) (T : String) (ty : PV → Sto → Bool) : Prop := ∀ (H : Hp) (ρ : Nat → Addr) (st : Sto) (p : PV) (x : V), RSt J.W H ρ st → RV J.W H ρ st.length p x → ty p st = true → tyV J.W.K T x H
theorem xe_met {o : Expr} {name : Str} {apos cpos : Pos} {T id : String} {r : V → List V → Hp → VK → Prop} {f : PV → List PV → Sto → Res PV} {ty : PV → Sto → Bool} {do_ : DE} (J2 : XJ X J) (pa : PlainAttrs T) (slot : Slot T name id) (hty : typeOf (.builtin id) = pure (.type "method_descriptor")) (hm : MtR X id r) (tk : TyOK J T ty) (hk : MetOK J f r)
    (ho : PE X o (rdE J do_)) (ha : PA X (e :: es) (rdL J dl))
    (hbase : attributeBase o name X.env (eval o X.env) = eval o X.env := by rfl)
    (hfew : ((backTo cpos (starEach (e :: es) X.env)).all (fun x => !x.1) && (backToKw cpos (keywordEach [] X.env)).all (fun x => x.1.isSome)
      && decide ((e :: es).length + ([] : List Keyword).length + (if ([] : List Keyword).isEmpty then 0 else 1) < 30)) = true := by rfl)
    (hline : (apos.endLine == cpos.line) = true := by rfl) (hs : starEach (e :: es) X.env = (false, eval e X.env) :: starEach es X.env := by rfl) (hplain : (backTo cpos (starEach es X.env)).any (·.1) = false := by rfl) :
    PE X (.Call (.Attribute o name apos) (e :: es) [] cpos) (rdE J (dMet ty f do_ dl)) :=
  PE.imp (pe_bm pa slot hty hm ho ha hbase hfew hline hs hplain) fun _ _ _ h => rd_bind J2.st h fun ρ th env st v x H1 S rv g => by
    split at g
    · rename_i et
      refine ⟨by rw [← J2.K]; exact tk H1 ρ st v x S.rs rv et, rd_of S (gR.bind g fun ps st2 H2 ρ2 xs _ s2 r2 g2 => ?_)⟩
      exact hk _ H2 ρ2 st2 v ps x xs _ s2.rs (s2.rv rv) r2 g2
    · exact g.elim
theorem xe_met0 {o : Expr} {name : Str} {apos cpos : Pos} {T id : String} {r : V → List V → Hp → VK → Prop} {f : PV → List PV → Sto → Res PV} {ty : PV → Sto → Bool} {do_ : DE} (J2 : XJ X J) (pa : PlainAttrs T) (slot : Slot T name id) (hty : typeOf (.builtin id) = pure (.type "method_descriptor")) (hm : MtR X id r) (tk : TyOK J T ty) (hk : MetOK J f r)
    (ho : PE X o (rdE J do_)) (hbase : attributeBase o name X.env (eval o X.env) = eval o X.env := by rfl) (hline : (apos.endLine == cpos.line) = true := by rfl) :
    PE X (.Call (.Attribute o name apos) [] [] cpos) (rdE J (dMet ty f do_ dNil)) :=
  PE.imp (pe_bm0 pa slot hty hm ho hbase hline) fun _ _ _ h => rd_bind J2.st h fun ρ th env st v x H1 S rv g => by
    split at g
    · rename_i et
      refine ⟨by rw [← J2.K]; exact tk H1 ρ st v x S.rs rv et, ?_⟩
      exact hk _ H1 ρ st v [] x [] _ S.rs rv rfl g
    · exact g.elim
/-! ### calls of defs -/
/-- a def as a function of its arguments and the store -/
abbrev Fn := List PV → Sto → Res PV
/-- the promise: what the function says -/
def spF (W : Wd) (F : Fn) : Sp := fun vs H Q E => ∃ ρ ps st, RSt W H ρ st ∧ RVs W H ρ st.length ps vs ∧ gE W E (F ps st) H ρ st.length Q
end
end Mi
end
section
set_option maxRecDepth 100000
set_option maxHeartbeats 4000000
namespace Mi
open PySem PySem.Spec PyProof.Rows L2
/-! ### targets -/
inductive Tg where
  | nm (i : Nat)
  | tp (ts : List Tg)
mutual
def Tg.set : Tg → PV → Env → Option Env
  | .nm i, p, env => some (env.set i (some p))
  | .tp ts, p, env => match p with
    | .tup xs => Tg.sets ts xs env
    | _ => none
def Tg.sets : List Tg → List PV → Env → Option Env
  | [], xs, env => match xs with
    | [] => some env
    | _ => none
  | t :: ts, xs, env => match xs with
    | x :: xs => match Tg.set t x env with
      | some env => Tg.sets ts xs env
      | none => none
    | [] => none
end
mutual
def Tg.rd (K : PySem.W.Frag) : Tg → TG
  | .nm i => gName i
  | .tp ts => gTup K ts.length (Tg.rds K ts)
def Tg.rds (K : PySem.W.Frag) : List Tg → TGs
  | [] => gNil
  | t :: ts => gCons (Tg.rd K t) (Tg.rds K ts)
end
mutual
def Tg.slots : Tg → List Nat
  | .nm i => [i]
  | .tp ts => Tg.slotss ts
def Tg.slotss : List Tg → List Nat
  | [] => []
  | t :: ts => Tg.slots t ++ Tg.slotss ts
end
/-- slots written, by V -/
inductive SetAt (vs : List Nat) : L2.St → L2.St → Prop
  | refl (σ : L2.St) : SetAt vs σ σ
  | set {σ σ' : L2.St} {i : Nat} {v : V} (hi : i ∈ vs) : SetAt vs σ σ' → SetAt vs σ (σ'.set i (some v))
theorem SetAt.trans {vs : List Nat} {a b c : L2.St} (h : SetAt vs a b) (k : SetAt vs b c) : SetAt vs a c := by
  induction k with
  | refl => exact h
  | set hi _ ih => exact .set hi ih
theorem SetAt.mono {vs us : List Nat} {a b : L2.St} (hs : ∀ i ∈ vs, i ∈ us) (h : SetAt vs a b) : SetAt us a b := by
  induction h with
  | refl => exact .refl _
  | set hi _ ih => exact .set (hs _ hi) ih
theorem wipe_get : ∀ (vs : List Nat) (σ : L2.St) (i : Nat), (L2.wipe σ vs)[i]? = if i ∈ vs then (if i < σ.length then some none else none) else σ[i]?
  | [], σ, i => by simp [L2.wipe]
  | v :: vs, σ, i => by
    show ((L2.wipe σ vs).set v none)[i]? = _
    by_cases h : v = i
    · subst h
      by_cases hl : v < σ.length
      · rw [List.getElem?_set_self (by rw [wipe_length]; exact hl), if_pos (List.mem_cons_self ..), if_pos hl]
      · rw [List.getElem?_eq_none (by rw [List.length_set, wipe_length]; exact Nat.le_of_not_lt hl), if_pos (List.mem_cons_self ..), if_neg hl]
    · rw [List.getElem?_set_ne h, wipe_get vs σ i]
      have : (i ∈ v :: vs) ↔ (i ∈ vs) := by
        rw [List.mem_cons]
        exact ⟨fun z => z.resolve_left fun q => h q.symm, .inr⟩
      simp only [this]
theorem SetAt.len {vs : List Nat} {a b : L2.St} (h : SetAt vs a b) : b.length = a.length := by
  induction h with
  | refl => rfl
  | set _ _ ih => rw [List.length_set, ih]
theorem SetAt.wipe {vs : List Nat} {a b : L2.St} (h : SetAt vs a b) : L2.wipe b vs = L2.wipe a vs := by
  refine List.ext_getElem? fun i => ?_
  rw [wipe_get, wipe_get, h.len]
  by_cases hi : i ∈ vs
  · rw [if_pos hi, if_pos hi]
  · rw [if_neg hi, if_neg hi]
    induction h with
    | refl => rfl
    | @set σ' j v hj _ ih =>
      have : j ≠ i := fun z => hi (z ▸ hj)
      rw [List.getElem?_set_ne this, ih]
section
variable {W : Wd} {H : Hp} {ρ : Nat → Addr} {n : Nat}
mutual
theorem Tg.ok : ∀ (t : Tg) (p : PV) (v : V) (env env' : Env) (σ : L2.St) (Q : L2.St → Hp → Prop), RV W H ρ n p v → REnv W H ρ n env σ → Tg.set t p env = some env' → (∀ σ', REnv W H ρ n env' σ' → SetAt (Tg.slots t) σ σ' → Q σ' H) → Tg.rd W.K t v σ H Q
  | .nm i, p, v, env, env', σ, Q, hv, he, e, k => by
    cases e
    exact k _ (he.set i hv) (.set (List.mem_singleton.mpr rfl) (.refl _))
  | .tp ts, p, v, env, env', σ, Q, hv, he, e, k => by
    cases p with
    | tup xs =>
      obtain ⟨a, vs, rfl, s, r⟩ := hv
      have h := Tg.oks ts xs vs env env' σ Q r he e k
      exact ⟨a, vs, rfl, s, h.1, h.2⟩
    | _ => cases e
theorem Tg.oks : ∀ (ts : List Tg) (ps : List PV) (vs : List V) (env env' : Env) (σ : L2.St) (Q : L2.St → Hp → Prop), RVs W H ρ n ps vs → REnv W H ρ n env σ → Tg.sets ts ps env = some env' → (∀ σ', REnv W H ρ n env' σ' → SetAt (Tg.slotss ts) σ σ' → Q σ' H) → vs.length = ts.length ∧ Tg.rds W.K ts vs σ H Q
  | [], ps, vs, env, env', σ, Q, hv, he, e, k => by
    cases ps with
    | nil =>
      cases e
      have hv : vs = [] := hv
      subst hv
      exact ⟨rfl, rfl, k σ he (.refl _)⟩
    | cons _ _ => cases e
  | t :: ts, ps, vs, env, env', σ, Q, hv, he, e, k => by
    cases ps with
    | nil => cases e
    | cons p ps =>
      obtain ⟨v, us, rfl, h1, h2⟩ := hv
      have e : (match Tg.set t p env with | some env => Tg.sets ts ps env | none => none) = some env' := e
      cases e1 : Tg.set t p env with
      | none =>
        rw [e1] at e
        cases e
      | some env1 =>
        rw [e1] at e
        have e : Tg.sets ts ps env1 = some env' := e
        have key : us.length = ts.length := by
          have : ∀ (ts : List Tg) (ps : List PV) (env : Env), Tg.sets ts ps env = some env' → ps.length = ts.length := by
            intro ts
            induction ts with
            | nil =>
              intro ps env e
              cases ps with
              | nil => rfl
              | cons _ _ => cases e
            | cons t ts ih =>
              intro ps env e
              cases ps with
              | nil => cases e
              | cons p ps =>
                have e : (match Tg.set t p env with | some env => Tg.sets ts ps env | none => none) = some env' := e
                cases e1 : Tg.set t p env with
                | none =>
                  rw [e1] at e
                  cases e
                | some env1 =>
                  rw [e1] at e
                  rw [List.length_cons, List.length_cons, ih ps env1 e]
          rw [← h2.length]
          exact this ts ps env1 e
        refine ⟨by rw [List.length_cons, List.length_cons, key], v, us, rfl, Tg.ok t p v env env1 σ _ h1 he e1 fun σ1 he1 s1 => ?_⟩
        exact (Tg.oks ts ps us env1 env' σ1 Q h2 he1 e fun σ2 he2 s2 => k σ2 he2 ((s1.mono fun i hi => List.mem_append_left _ hi).trans (s2.mono fun i hi => List.mem_append_right _ hi))).2
end
end
/-! ### statements -/
def dSeq (a b : DS) : DS := fun th env st => match a th env st with
  | .nx env st => b th env st
  | r => r
def dSkip : DS := fun _ env st => .nx env st
def dBrk : DS := fun _ env st => .bk env st
def dCnt : DS := fun _ env st => .ct env st
def dNever : DS := fun _ _ _ => .bad
def Res.s {α : Type} (env : Env) : Res α → (α → Sto → RS) → RS
  | .ok a st, f => f a st
  | .exc e st, _ => .exc e env st
  | .bad, _ => .bad
def dExp (a : DE) : DS := fun th env st => (a th env st).s env fun _ st => .nx env st
def dRet (a : DE) : DS := fun th env st => (a th env st).s env fun v st => .rt v st
def dRetN : DS := fun _ _ st => .rt .non st
def dIfS (c : DB) (a b : DS) : DS := fun th env st => (c th env st).s env fun x st => match x with
  | true => a th env st
  | false => b th env st
def dSet (t : Tg) (a : DE) : DS := fun th env st => (a th env st).s env fun v st => match t.set v env with
  | some env => .nx env st
  | none => .bad
def dPar (i j : Nat) (a b : DE) : DS := fun th env st => (a th env st).s env fun x st => (b th env st).s env fun y st => .nx ((env.set i (some x)).set j (some y)) st
/-- o[i] = e -/
def dSub (f : PV → PV → PV → Sto → Option Sto) (o i e : DE) : DS := fun th env st => (e th env st).s env fun v st => (o th env st).s env fun x st => (i th env st).s env fun y st => match f x y v st with
  | some st => .nx env st
  | none => .bad
/-- x op= e -/
def dAug (f : PV → PV → Sto → Res PV) (i : Nat) (e : DE) : DS := fun th env st => match env[i]? with
  | some (some x) => (e th env st).s env fun y st => (f x y st).s env fun z st => .nx (env.set i (some z)) st
  | _ => .bad
/-- what is walked: values; or what the store says at turn i (none: nothing is known; some none: the end) -/
inductive ItD where
  | vals (xs : List PV)
  | dyn (m : Nat) (g : Nat → Sto → Option (Option PV))
abbrev DI := Dn ItD
def forV (t : Tg) (body : DS) (th : Th) : List PV → Env → Sto → RS
  | [], env, st => .nx env st
  | x :: xs, env, st => match t.set x env with
    | some env => match body th env st with
      | .nx env st => forV t body th xs env st
      | .ct env st => forV t body th xs env st
      | .bk env st => .nx env st
      | r => r
    | none => .bad
def forL (t : Tg) (body : DS) (th : Th) (g : Nat → Sto → Option (Option PV)) : Nat → Nat → Env → Sto → RS
  | 0, _, _, _ => .bad
  | m + 1, i, env, st => match g i st with
    | some (some x) => match t.set x env with
      | some env => match body th env st with
        | .nx env st => forL t body th g m (i + 1) env st
        | .ct env st => forL t body th g m (i + 1) env st
        | .bk env st => .nx env st
        | r => r
      | none => .bad
    | some none => .nx env st
    | none => .bad
/-- a list of the store -/
def lstG (k : Nat) : Nat → Sto → Option (Option PV) := fun i st => match lstAt st k with
  | some xs => some xs[i]?
  | none => none
def lenAt (st : Sto) (k : Nat) : Nat := match lstAt st k with
  | some xs => xs.length
  | none => 0
def dFor (it : DI) (t : Tg) (body : DS) : DS := fun th env st => (it th env st).s env fun d st => match d with
  | .vals xs => forV t body th xs env st
  | .dyn m g => forL t body th g m 0 env st
def dWhile (c : DB) (body : DS) : Nat → DS
  | 0 => dNever
  | m + 1 => fun th env st => (c th env st).s env fun b st => match b with
    | true => match body th env st with
      | .nx env st => dWhile c body m th env st
      | .ct env st => dWhile c body m th env st
      | .bk env st => .nx env st
      | r => r
    | false => .nx env st
/-! ### readings of statements -/
section
variable {J : Jx}
theorem gS.bind {W : Wd} {H : Hp} {ρ : Nat → Addr} {n : Nat} {α β : Type} {R : Hp → (Nat → Addr) → Nat → α → β → Prop} {Wx : WX} {env : Env} {σ : L2.St} {r : Res α} {f : α → Sto → RS} {D : Ends} {Q2 : β → Hp → Prop} (he : REnv W H ρ n env σ)
    (h : gS W Wx (r.s env f) H ρ n D) (k : ∀ v st1 H1 ρ1 x, r = .ok v st1 → Stp W H ρ n H1 ρ1 st1 → R H1 ρ1 st1.length v x → gS W Wx (f v st1) H1 ρ1 st1.length D → Q2 x H1) : gR W R (fun c dd H' => Wx c dd σ H') r H ρ n Q2 := by
  cases r with
  | ok v st1 => exact fun H1 ρ1 x s1 q => k v st1 H1 ρ1 x rfl s1 q (gS.pre s1 h)
  | exc e st1 => exact fun H1 ρ1 c d s1 q => h H1 ρ1 σ c d s1 (s1.renv he) q
  | bad => exact h
theorem rs_bind {α β : Type} {R : Hp → (Nat → Addr) → Nat → α → β → Prop} {da : Dn α} {f : α → Th → Env → Sto → RS} {σ : L2.St} {H : Hp} {D : Ends} {Q2 : β → Hp → Prop} (hs : J.tr.Stays J.W)
    (h : rdS J (fun th env st => (da th env st).s env fun v st1 => f v th env st1) D σ H)
    (k : ∀ ρ th env st v x H1, Sit J ρ th env st σ H1 → R H1 ρ st.length v x → gS J.W J.Wx (f v th env st) H1 ρ st.length D → Q2 x H1) : rdR J R da σ H Q2 := by
  obtain ⟨ρ, th, env, st, S, g⟩ := h
  exact ⟨ρ, th, env, st, S, gS.bind S.env g fun v st1 H1 ρ1 x _ s1 r g1 => k ρ1 th env st1 v x H1 (S.step hs s1) r g1⟩
theorem rs_of {d : DS} {ρ : Nat → Addr} {th : Th} {env : Env} {st : Sto} {σ : L2.St} {H : Hp} {D : Ends} (S : Sit J ρ th env st σ H) (g : gS J.W J.Wx (d th env st) H ρ st.length D) : rdS J d D σ H := ⟨ρ, th, env, st, S, g⟩
theorem Sit.to {ρ ρ' : Nat → Addr} {th : Th} {env env' : Env} {st st' : Sto} {σ σ' : L2.St} {H H' : Hp} (hs : J.tr.Stays J.W) (S : Sit J ρ th env st σ H) (s : Stp J.W H ρ st.length H' ρ' st') (e : REnv J.W H' ρ' st'.length env' σ') : Sit J ρ' th env' st' σ' H' :=
  ⟨s.rs, e, hs _ _ _ _ _ _ _ s S.th⟩
end
section
variable {X : Cx} {J : Jx} {a b e o : Expr} {da db de do_ di : DE} {pos : Pos} {s : Stmt} {ss : List Stmt} {ds dt : DS}
theorem ys_nil : PSs X [] (rdS J dSkip) := PSs.imp pss_nil fun D σ H h => by
  obtain ⟨ρ, th, env, st, S, g⟩ := h
  exact g H ρ σ (.refl S.rs) S.env
theorem ys_cons (J2 : XJ X J) (h1 : PS X s (rdS J ds)) (h2 : PSs X ss (rdS J dt)) : PSs X (s :: ss) (rdS J (dSeq ds dt)) := PSs.imp (pss_cons h1 h2) fun D σ H h => by
  obtain ⟨ρ, th, env, st, S, g⟩ := h
  refine rs_of S ?_
  unfold dSeq at g
  cases e : ds th env st with
  | nx env1 st1 =>
    rw [e] at g
    exact fun H1 ρ1 σ1 s1 he => rs_of (S.to J2.st s1 he) (gS.pre s1 g)
  | rt v st1 =>
    rw [e] at g
    exact g
  | bk env1 st1 =>
    rw [e] at g
    exact g
  | ct env1 st1 =>
    rw [e] at g
    exact g
  | exc x env1 st1 =>
    rw [e] at g
    exact g
  | bad =>
    rw [e] at g
    exact g
theorem ys_one (h1 : PS X s (rdS J ds)) : PSs X [s] (rdS J ds) := pss_one h1
theorem ys_pass : PS X (.Pass pos) (rdS J dSkip) := PS.imp ps_pass fun D σ H h => by
  obtain ⟨ρ, th, env, st, S, g⟩ := h
  exact g H ρ σ (.refl S.rs) S.env
theorem ys_break : PS X (.Break pos) (rdS J dBrk) := PS.imp ps_break fun D σ H h => by
  obtain ⟨ρ, th, env, st, S, g⟩ := h
  exact g H ρ σ (.refl S.rs) S.env
theorem ys_cont : PS X (.Continue pos) (rdS J dCnt) := PS.imp ps_continue fun D σ H h => by
  obtain ⟨ρ, th, env, st, S, g⟩ := h
  exact g H ρ σ (.refl S.rs) S.env
theorem ys_never : PS X s (rdS J dNever) := PS.imp ps_never fun D σ H h => by
  obtain ⟨ρ, th, env, st, S, g⟩ := h
  exact g
theorem ys_expr (J2 : XJ X J) (he : PE X e (rdE J de)) (hs : swapsWith e none pos.line X.env = pure false := by rfl) : PS X (.Expr e pos) (rdS J (dExp de)) := PS.imp (ps_expr he hs) fun D σ H h =>
  rs_bind J2.st h fun ρ th env st v x H1 S r g => g H1 ρ σ (.refl S.rs) S.env
theorem ys_ret (J2 : XJ X J) (he : PE X e (rdE J de)) : PS X (.Return (some e) pos) (rdS J (dRet de)) := PS.imp (ps_ret he) fun D σ H h =>
  rs_bind J2.st h fun ρ th env st v x H1 S r g => g H1 ρ x (.refl S.rs) r
theorem ys_retN : PS X (.Return none pos) (rdS J dRetN) := PS.imp ps_retN fun D σ H h => by
  obtain ⟨ρ, th, env, st, S, g⟩ := h
  exact g H ρ .non (.refl S.rs) rfl
theorem ys_if {c : Expr} {sa sb : List Stmt} {dc : DB} (J2 : XJ X J) (hc : PT X c (rdB J dc)) (ha : PSs X sa (rdS J ds)) (hb : PSs X sb (rdS J dt)) : PS X (.If c sa sb pos) (rdS J (dIfS dc ds dt)) := PS.imp (ps_if hc ha hb) fun D σ H h =>
  rs_bind J2.st h fun ρ th env st v x H1 S r g => by
    have r : x = v := r
    subst r
    cases x with
    | true =>
      rw [if_pos rfl]
      exact rs_of S g
    | false =>
      rw [if_neg Bool.false_ne_true]
      exact rs_of S g
theorem rs_set {t : Tg} (J2 : XJ X J) {D : Ends} {σ : L2.St} {H : Hp} (h : rdS J (dSet t de) D σ H) : tAsg (rdE J de) (Tg.rd X.K t) D σ H :=
  rs_bind J2.st h fun ρ th env st v x H1 S r g => by
    split at g
    · rename_i env' e
      rw [← J2.K]
      exact Tg.ok t v x env env' σ _ r S.env e fun σ' he _ => g H1 ρ σ' (.refl S.rs) he
    · exact g.elim
/-- x = e -/
theorem ys_set {i : Nat} {x : Str} {pos' : Pos} (J2 : XJ X J) (hN : X.N.Nodup) (hi : X.N[i]? = some x) (hx : Loc X.env.scope x) (he : PE X e (rdE J de)) (hs : swapsWith e (some (.Name x pos')) pos.line X.env = pure false := by rfl) (hf : X.fn x = true ∨ X.env.scope.names.lookup x = some .local := by first | exact .inl rfl | exact .inr rfl | assumption) :
    PS X (.Assign [.Name x pos'] e pos) (rdS J (dSet (.nm i) de)) := PS.imp (ps_set hN hi hx he hs hf) fun D σ H h => rs_set J2 h
/-- the i-th name is a target -/
theorem yg_nm {i : Nat} {x : Str} (hN : X.N.Nodup) (hi : X.N[i]? = some x) (hx : Loc X.env.scope x) (hf : X.fn x = true ∨ X.env.scope.names.lookup x = some .local := by first | exact .inl rfl | exact .inr rfl | assumption) : PG X (.Name x pos) (Tg.rd X.K (.nm i)) := pg_name hN hi hx hf
theorem ygs_nil : PGs X [] (Tg.rds X.K []) := pgs_nil
theorem ygs_cons {es : List Expr} {t : Tg} {ts : List Tg} (h1 : PG X e (Tg.rd X.K t)) (h2 : PGs X es (Tg.rds X.K ts)) (hs : (assignEach (e :: es) X.env).map (·.2) = assign e X.env :: (assignEach es X.env).map (·.2) := by rfl) : PGs X (e :: es) (Tg.rds X.K (t :: ts)) := pgs_cons h1 h2 hs
theorem yg_tp {es : List Expr} {ts : List Tg} {k : Nat} (hc : X.calm = true) (h : PGs X es (Tg.rds X.K ts)) (hn : (assignEach es X.env).length = ts.length := by rfl) (hst : (assignEach es X.env).findIdx? (·.1) = none := by rfl) : PG X (.Tuple es k pos) (Tg.rd X.K (.tp ts)) := pg_tup hc h hn hst
/-- a, b = e -/
theorem ys_unp {tg : Expr} {t : Tg} (J2 : XJ X J) (he : PE X e (rdE J de)) (hg : PG X tg (Tg.rd X.K t)) (hs : swapsWithSole [tg] e pos.line X.env = pure false := by rfl) (hw : swappedStores [tg] e X.env = pure none := by rfl) (h1 : (assignEach [tg] X.env).map (·.2) = [assign tg X.env] := by rfl) :
    PS X (.Assign [tg] e pos) (rdS J (dSet t de)) := PS.imp (ps_asg he hg hs hw h1) fun D σ H h => rs_set J2 h
/-- a, b = x, y -/
theorem ys_par {i j : Nat} {x y : Str} {px py pt : Pos} {kt k2 pt2} (J2 : XJ X J) (hc : X.calm = true) (hN : X.N.Nodup) (hi : X.N[i]? = some x) (hj : X.N[j]? = some y) (hij : i ≠ j) (hx : X.env.scope.names.lookup x = some .local) (hy : X.env.scope.names.lookup y = some .local)
    (ha : PE X a (rdE J da)) (hb : PE X b (rdE J db)) (hw : swappedStores [.Tuple [.Name x px, .Name y py] kt pt] (.Tuple [a, b] k2 pt2) X.env = pure (some [x, y])) (h1 : starEach [a, b] X.env = (false, eval a X.env) :: starEach [b] X.env := by rfl) (h2 : starEach [b] X.env = (false, eval b X.env) :: starEach [] X.env := by rfl)
    (hs : swapsWithSole [.Tuple [.Name x px, .Name y py] kt pt] (.Tuple [a, b] k2 pt2) pos.line X.env = pure false := by rfl) : PS X (.Assign [.Tuple [.Name x px, .Name y py] kt pt] (.Tuple [a, b] k2 pt2) pos) (rdS J (dPar i j da db)) :=
  PS.imp (ps_par (ta := tCons (rdE J da) (tCons (rdE J db) tNil)) hc hN hi hj hij hx hy (pa_cons ha (pa_cons hb pa_nil h2) h1) hw hs) fun D σ H h =>
    rs_bind J2.st h fun ρ th env st v x H1 S r g => rd_of S (gS.bind S.env g fun w st2 H2 ρ2 y _ s2 r2 g2 => ⟨x, y, rfl, g2 H2 ρ2 _ (.refl s2.rs) (((s2.renv S.env).set i (s2.rv r)).set j r2)⟩)
/-! ### stores -/
def SetOK (J : Jx) (f : PV → PV → PV → Sto → Option Sto) (r : TSet) : Prop := ∀ (H : Hp) (ρ : Nat → Addr) (st st' : Sto) (o i v : PV) (x y z : V) (Q : Hp → Prop), RSt J.W H ρ st → RV J.W H ρ st.length o x → RV J.W H ρ st.length i y → RV J.W H ρ st.length v z → f o i v st = some st' → (∀ H', Stp J.W H ρ st.length H' ρ st' → Q H') → r x y z H Q
def pSetL (o i v : PV) (st : Sto) : Option Sto := match o, i with
  | .ref k, .int j => match st[k]? with
    | some (.lst xs) => match ixN xs.length j with
      | some m => some (st.set k (.lst (xs.set m v)))
      | none => none
    | _ => none
  | _, _ => none
theorem ok_setL : SetOK J pSetL rSetL := by
  intro H ρ st st' o i v x y z Q r ho hi hv e q
  unfold pSetL at e
  split at e
  · split at e
    · rename_i xs e1
      split at e
      · rename_i m em
        cases e
        obtain ⟨_, rfl⟩ := ho
        simp only [RV] at hi
        subst hi
        obtain ⟨vs, h1, h2⟩ := r.lst e1
        exact ⟨_, vs, _, m, rfl, rfl, h1, by rw [← h2.length]; exact em, q _ (.setL r e1 rfl (h2.set hv m))⟩
      · cases e
    · cases e
  · cases e
theorem RVs.set' {W : Wd} {H : Hp} {ρ : Nat → Addr} {n : Nat} {ps : List PV} {vs : List V} {p : PV} {v : V} (h : RVs W H ρ n ps vs) (hp : RV W H ρ n p v) (i : Nat) : RVs W H ρ n (ps.set i p) (vs.set i v) := RVs.set hp i h
theorem ys_sub {i : Expr} {f : PV → PV → PV → Sto → Option Sto} {r : TSet} {p2 : Pos} (J2 : XJ X J) (hp : PSet X r) (hk : SetOK J f r) (ho : PE X o (rdE J do_)) (hi : PE X i (rdE J di)) (he : PE X e (rdE J de))
    (ha : ∀ v, assign (.Subscript o i p2) X.env v = (do
      let ov ← holding [v] (eval o X.env)
      let iv ← holding [v, ov] (eval i X.env)
      standAt p2
      holding [v, ov, iv] (setItem ov iv v)
      release [v, ov, iv] []) := by intro _; rfl)
    (hs : swapsWithSole [.Subscript o i p2] e pos.line X.env = pure false := by rfl) (hw : swappedStores [.Subscript o i p2] e X.env = pure none := by rfl) (h1 : (assignEach [.Subscript o i p2] X.env).map (·.2) = [assign (.Subscript o i p2) X.env] := by rfl) :
    PS X (.Assign [.Subscript o i p2] e pos) (rdS J (dSub f do_ di de)) := PS.imp (ps_asg he (pg_sub ho hi hp ha) hs hw h1) fun D σ H h =>
  rs_bind J2.st h fun ρ th env st v x H1 S r g => rd_of S (gS.bind S.env g fun w st2 H2 ρ2 y _ s2 r2 g2 => rd_of (S.step J2.st s2) (gS.bind (s2.renv S.env) g2 fun u st3 H3 ρ3 z _ s3 r3 g3 => by
    split at g3
    · rename_i st' e
      exact hk H3 ρ3 st3 st' w u v y z x _ s3.rs (s3.rv r2) r3 (s3.rv (s2.rv r)) e fun H' s' => g3 H' ρ3 σ s' ((s3.trans s').renv (s2.renv S.env))
    · exact g3.elim))
/-- x op= e -/
theorem ys_aug {i : Nat} {x : Str} {op : Operator} {f : PV → PV → Sto → Res PV} {r : R2} {pos' : Pos} (J2 : XJ X J) (hN : X.N.Nodup) (hi : X.N[i]? = some x) (hx : Loc X.env.scope x) (he : PE X e (rdE J de)) (ho : OpR X (inplaceOp op) r) (hk : OpOK J f r) (hf : X.fn x = true ∨ X.env.scope.names.lookup x = some .local := by first | exact .inl rfl | exact .inr rfl | assumption) :
    PS X (.AugAssign (.Name x pos') op e pos) (rdS J (dAug f i de)) := PS.imp (ps_aug (ti := r) hN hi hx he ho hf) fun D σ H h => by
  obtain ⟨ρ, th, env, st, S, g⟩ := h
  unfold dAug at g
  split at g
  · rename_i p e
    obtain ⟨v, h1, h2⟩ := S.env.get i p e
    refine ⟨v, h1, rd_of S (gS.bind S.env g fun w st2 H2 ρ2 y _ s2 r2 g2 => ?_)⟩
    exact hk (fun c dd H' => J.Wx c dd σ H') H2 ρ2 st2 p w v y _ s2.rs (s2.rv h2) r2 (gS.bind (s2.renv S.env) g2 fun u st3 H3 ρ3 z _ s3 r3 g3 => g3 H3 ρ3 _ (.refl s3.rs) ((s3.renv (s2.renv S.env)).set i r3))
  · exact g.elim
end
end Mi
end
section
set_option maxRecDepth 100000
set_option maxHeartbeats 4000000
namespace Mi
open PySem PySem.Spec PyProof.Rows L2
/-! ### what is walked -/
/-- J walks d -/
def ItOK (W : Wd) (H0 : Hp) (ρ0 : Nat → Addr) (n0 : Nat) : ItD → It → Prop
  | .vals xs, J => ∀ (i : Nat) (H : Hp) (ρ : Nat → Addr) (st : Sto), Stp W H0 ρ0 n0 H ρ st →
      (∀ p, xs[i]? = some p → J.go i H ∧ ∀ x H', J.yld i H x H' → Stp W H ρ st.length H' ρ st ∧ RV W H' ρ st.length p x) ∧ (i = xs.length → J.stop i H)
  | .dyn _ g, J => ∀ (i : Nat) (H : Hp) (ρ : Nat → Addr) (st : Sto), Stp W H0 ρ0 n0 H ρ st → match g i st with
      | some (some p) => J.go i H ∧ ∀ x H', J.yld i H x H' → Stp W H ρ st.length H' ρ st ∧ RV W H' ρ st.length p x
      | some none => J.stop i H
      | none => True
abbrev rdI (J : Jx) (d : DI) : TI := rdR J (fun H ρ n p x => ItOK J.W H ρ n p x) d
/-- the walk of a def's context: how exceptions go, no handled one -/
structure XK2 (X : Cx) (J : Jx) : Prop extends XJ X J where
  cm : X.calm = true
  nd : X.N.Nodup
  po : PassesOwn (model X.prog X.w) X.A X.env X.xe
  gd : X.A.guards = some []
section
variable {X : Cx} {J : Jx} {tg iter : Expr} {body : List Stmt} {di : DI} {t : Tg} {db : DS} {pos : Pos}
theorem drop_get {α : Type} {xs : List α} {i : Nat} {x : α} {r : List α} (h : xs.drop i = x :: r) : xs[i]? = some x ∧ xs.drop (i + 1) = r := by
  constructor
  · have := congrArg (fun l : List α => l[0]?) h
    simpa using this
  · have := congrArg (fun l : List α => l.drop 1) h
    simpa [List.drop_drop] using this
theorem drop_nil {α : Type} {xs : List α} {i : Nat} (h : xs.drop i = []) (hi : i ≤ xs.length) : i = xs.length := by
  have := List.drop_eq_nil_iff.mp h
  omega
theorem rs_forV (J2 : XJ X J) {xs : List PV} {It0 : It} {ρ0 : Nat → Addr} {th : Th} {env0 : Env} {st0 : Sto} {σ0 : L2.St} {H0 : Hp} {D : Ends} (S0 : Sit J ρ0 th env0 st0 σ0 H0) (hI : ItOK J.W H0 ρ0 st0.length (.vals xs) It0) (g0 : gS J.W J.Wx (forV t db th xs env0 st0) H0 ρ0 st0.length D) :
    ∃ W : Nat → Nat → L2.St → Hp → Prop, (∃ m, W 0 m σ0 H0) ∧ ∀ i m σ H, W i m σ H →
      (It0.stop i H ∧ D.nx σ H) ∨ (It0.go i H ∧ ∃ N : L2.St → Hp → Prop, (∀ σ' H', N σ' H' → ∃ m', m' < m ∧ W (i + 1) m' σ' H') ∧ ∀ x H', It0.yld i H x H' → Tg.rd X.K t x σ H' fun σ2 H2 => rdS J db { D with nx := N, ct := N, bk := D.nx } σ2 H2) := by
  refine ⟨fun i m σ H => ∃ ρ env st r, Sit J ρ th env st σ H ∧ Stp J.W H0 ρ0 st0.length H ρ st ∧ i ≤ xs.length ∧ xs.drop i = r ∧ m = r.length ∧ gS J.W J.Wx (forV t db th r env st) H ρ st.length D,
    ⟨xs.length, ρ0, env0, st0, xs, S0, .refl S0.rs, Nat.zero_le _, rfl, rfl, g0⟩, ?_⟩
  rintro i m σ H ⟨ρ, env, st, r, S, s, hi, hr, hm, g⟩
  obtain ⟨h1, h2⟩ := hI i H ρ st s
  cases r with
  | nil => exact .inl ⟨h2 (drop_nil hr hi), g H ρ σ (.refl S.rs) S.env⟩
  | cons p r =>
    obtain ⟨e1, e2⟩ := drop_get hr
    have hlt : i < xs.length := (List.getElem?_eq_some_iff.mp e1).1
    obtain ⟨h3, h4⟩ := h1 p e1
    refine .inr ⟨h3, fun σ' H' => ∃ ρ env st, Sit J ρ th env st σ' H' ∧ Stp J.W H0 ρ0 st0.length H' ρ st ∧ gS J.W J.Wx (forV t db th r env st) H' ρ st.length D, fun σ' H' ⟨ρ', env', st', S', s', g'⟩ => ?_, fun x H' y => ?_⟩
    · exact ⟨r.length, by rw [hm]; exact Nat.lt_succ_self _, ρ', env', st', r, S', s', hlt, e2, rfl, g'⟩
    · obtain ⟨s1, rv⟩ := h4 x H' y
      have g : gS J.W J.Wx (match t.set p env with
        | some env => match db th env st with
          | .nx env st => forV t db th r env st
          | .ct env st => forV t db th r env st
          | .bk env st => .nx env st
          | r => r
        | none => .bad) H ρ st.length D := g
      split at g
      · rename_i env1 e
        rw [← J2.K]
        refine Tg.ok t p x env env1 σ _ rv (s1.renv S.env) e fun σ1 he1 _ => ?_
        have S1 : Sit J ρ th env1 st σ1 H' := S.to J2.st s1 he1
        have sT := s.trans s1
        refine rs_of S1 (gS.pre s1 ?_)
        cases eb : db th env1 st with
        | nx e2 st2 =>
          rw [eb] at g
          exact fun H2 ρ2 σ2 s2 he => ⟨ρ2, e2, st2, S.to J2.st s2 he, s.trans s2, gS.pre s2 g⟩
        | ct e2 st2 =>
          rw [eb] at g
          exact fun H2 ρ2 σ2 s2 he => ⟨ρ2, e2, st2, S.to J2.st s2 he, s.trans s2, gS.pre s2 g⟩
        | bk e2 st2 =>
          rw [eb] at g
          exact g
        | rt v st2 =>
          rw [eb] at g
          exact g
        | exc x e2 st2 =>
          rw [eb] at g
          exact g
        | bad =>
          rw [eb] at g
          exact g
      · exact g.elim
theorem rs_forL (J2 : XJ X J) {gg : Nat → Sto → Option (Option PV)} {It0 : It} {ρ0 : Nat → Addr} {th : Th} {env0 : Env} {st0 : Sto} {σ0 : L2.St} {H0 : Hp} {D : Ends} {m0 : Nat} (S0 : Sit J ρ0 th env0 st0 σ0 H0) (hI : ItOK J.W H0 ρ0 st0.length (.dyn m0 gg) It0) (g0 : gS J.W J.Wx (forL t db th gg m0 0 env0 st0) H0 ρ0 st0.length D) :
    ∃ W : Nat → Nat → L2.St → Hp → Prop, (∃ m, W 0 m σ0 H0) ∧ ∀ i m σ H, W i m σ H →
      (It0.stop i H ∧ D.nx σ H) ∨ (It0.go i H ∧ ∃ N : L2.St → Hp → Prop, (∀ σ' H', N σ' H' → ∃ m', m' < m ∧ W (i + 1) m' σ' H') ∧ ∀ x H', It0.yld i H x H' → Tg.rd X.K t x σ H' fun σ2 H2 => rdS J db { D with nx := N, ct := N, bk := D.nx } σ2 H2) := by
  refine ⟨fun i m σ H => ∃ ρ env st, Sit J ρ th env st σ H ∧ Stp J.W H0 ρ0 st0.length H ρ st ∧ gS J.W J.Wx (forL t db th gg m i env st) H ρ st.length D,
    ⟨m0, ρ0, env0, st0, S0, .refl S0.rs, g0⟩, ?_⟩
  rintro i m σ H ⟨ρ, env, st, S, s, g⟩
  have hi := hI i H ρ st s
  cases m with
  | zero => exact g.elim
  | succ m =>
    have g : gS J.W J.Wx (match gg i st with
      | some (some x) => match t.set x env with
        | some env => match db th env st with
          | .nx env st => forL t db th gg m (i + 1) env st
          | .ct env st => forL t db th gg m (i + 1) env st
          | .bk env st => .nx env st
          | r => r
        | none => .bad
      | some none => .nx env st
      | none => .bad) H ρ st.length D := g
    cases el : gg i st with
    | none =>
      rw [el] at g
      exact g.elim
    | some ex =>
      rw [el] at g hi
      cases ex with
      | none =>
        exact .inl ⟨hi, g H ρ σ (.refl S.rs) S.env⟩
      | some p =>
        obtain ⟨h3, h4⟩ := hi
        dsimp only at g
        refine .inr ⟨h3, fun σ' H' => ∃ ρ env st, Sit J ρ th env st σ' H' ∧ Stp J.W H0 ρ0 st0.length H' ρ st ∧ gS J.W J.Wx (forL t db th gg m (i + 1) env st) H' ρ st.length D, fun σ' H' h => ⟨m, Nat.lt_succ_self _, h⟩, fun x H' y => ?_⟩
        obtain ⟨s1, rv⟩ := h4 x H' y
        cases ee : t.set p env with
        | none =>
          rw [ee] at g
          exact g.elim
        | some env1 =>
          rw [ee] at g
          dsimp only at g
          rw [← J2.K]
          refine Tg.ok t p x env env1 σ _ rv (s1.renv S.env) ee fun σ1 he1 _ => ?_
          have S1 : Sit J ρ th env1 st σ1 H' := S.to J2.st s1 he1
          have sT := s.trans s1
          refine rs_of S1 (gS.pre s1 ?_)
          cases eb : db th env1 st with
          | nx e2 st2 =>
            rw [eb] at g
            exact fun H2 ρ2 σ2 s2 he => ⟨ρ2, e2, st2, S.to J2.st s2 he, s.trans s2, gS.pre s2 g⟩
          | ct e2 st2 =>
            rw [eb] at g
            exact fun H2 ρ2 σ2 s2 he => ⟨ρ2, e2, st2, S.to J2.st s2 he, s.trans s2, gS.pre s2 g⟩
          | bk e2 st2 =>
            rw [eb] at g
            exact g
          | rt v st2 =>
            rw [eb] at g
            exact g
          | exc x e2 st2 =>
            rw [eb] at g
            exact g
          | bad =>
            rw [eb] at g
            exact g
theorem ys_for (J2 : XK2 X J) (hi : PI X tg iter (rdI J di)) (hg : PG X tg (Tg.rd X.K t)) (hb : PSs X body (rdS J db)) (hs : ∀ x, foldedSetIterable iter X.env x = pure x := by intro _; rfl) : PS X (.For tg iter body [] pos) (rdS J (dFor di t db)) :=
  PS.imp (ps_for J2.po J2.cm hi hg hb hs) fun D σ H h => rs_bind J2.st h fun ρ th env st v x H1 S r g => by
    split at g
    · exact rs_forV J2.toXJ S r g
    · exact rs_forL J2.toXJ S r g
theorem ys_while {c : Expr} {dc : DB} (fuel : Nat) (J2 : XK2 X J) (hc : PT X c (rdB J dc)) (hb : PSs X body (rdS J db)) : PS X (.While c body [] pos) (rdS J (dWhile dc db fuel)) :=
  PS.imp (ps_while J2.po hc hb) fun D σ H h => by
    refine ⟨fun m σ H => rdS J (dWhile dc db m) D σ H, ⟨fuel, h⟩, fun m σ H h => ?_⟩
    cases m with
    | zero =>
      obtain ⟨ρ, th, env, st, S, g⟩ := h
      exact g.elim
    | succ m =>
      refine rs_bind J2.st h fun ρ th env st v x H1 S r g => ?_
      have r : x = v := r
      subst r
      cases x with
      | false =>
        rw [if_neg Bool.false_ne_true]
        exact g H1 ρ σ (.refl S.rs) S.env
      | true =>
        rw [if_pos rfl]
        refine ⟨fun σ' H' => rdS J (dWhile dc db m) D σ' H', fun σ' H' h => ⟨m, Nat.lt_succ_self _, h⟩, rs_of S ?_⟩
        have g : gS J.W J.Wx (match db th env st with
          | .nx env st => dWhile dc db m th env st
          | .ct env st => dWhile dc db m th env st
          | .bk env st => .nx env st
          | r => r) H1 ρ st.length D := g
        cases eb : db th env st with
        | nx e2 st2 =>
          rw [eb] at g
          exact fun H2 ρ2 σ2 s2 he => rs_of (S.to J2.st s2 he) (gS.pre s2 g)
        | ct e2 st2 =>
          rw [eb] at g
          exact fun H2 ρ2 σ2 s2 he => rs_of (S.to J2.st s2 he) (gS.pre s2 g)
        | bk e2 st2 =>
          rw [eb] at g
          exact g
        | rt v st2 =>
          rw [eb] at g
          exact g
        | exc x e2 st2 =>
          rw [eb] at g
          exact g
        | bad =>
          rw [eb] at g
          exact g
end
/-! ### list comprehensions -/
def lcV (t : Tg) (ts : DB) (el : DE) (own : List Nat) (th : Th) (D : Nat) : List PV → Env → Sto → Res Unit
  | [], _, st => .ok () st
  | x :: xs, env, st => match t.set x env with
    | some env1 => (ts th env1 st).bind fun b st => match b with
      | true => (el th env1 st).bind fun y st => match st[D]? with
        | some (.lst acc) => if Nat.blt acc.length 16777216 = true then lcV t ts el own th D xs env (st.set D (.lst (acc ++ [y]))) else .bad
        | _ => .bad
      | false => lcV t ts el own th D xs env st
    | none => .bad
def lcL (t : Tg) (ts : DB) (el : DE) (own : List Nat) (th : Th) (D : Nat) (g : Nat → Sto → Option (Option PV)) : Nat → Nat → Env → Sto → Res Unit
  | 0, _, _, _ => .bad
  | m + 1, i, env, st => match g i st with
    | some (some x) => match t.set x env with
      | some env1 => (ts th env1 st).bind fun b st => match b with
        | true => (el th env1 st).bind fun y st => match st[D]? with
          | some (.lst acc) => if Nat.blt acc.length 16777216 = true then lcL t ts el own th D g m (i + 1) env (st.set D (.lst (acc ++ [y]))) else .bad
          | _ => .bad
        | false => lcL t ts el own th D g m (i + 1) env st
      | none => .bad
    | some none => .ok () st
    | none => .bad
/-- nothing is raised out of a block -/
def Res.quiet {α : Type} : Res α → Res α
  | .exc _ _ => .bad
  | r => r
def dLc (it : DI) (t : Tg) (ts : DB) (el : DE) (own : List Nat) : DE := fun th env st => (it th env st).bind fun d st => match d with
  | .vals xs => (lcV t ts el own th st.length xs (wipeE env own) (st ++ [.lst []])).quiet.bind fun _ st' => .ok (.ref st.length) st'
  | .dyn m g => (lcL t ts el own th st.length g m 0 (wipeE env own) (st ++ [.lst []])).quiet.bind fun _ st' => .ok (.ref st.length) st'
def dYes : DB := fun _ _ st => .ok true st
end Mi
end
section
set_option maxRecDepth 100000
set_option maxHeartbeats 4000000
namespace Mi
open PySem PySem.Spec PyProof.Rows L2
/-- in a block nothing is raised -/
abbrev Jx.blk (J : Jx) : Jx := { J with Wx := fun _ _ _ _ => False }
theorem Sit.blk {J : Jx} {ρ : Nat → Addr} {th : Th} {env : Env} {st : Sto} {σ : L2.St} {H : Hp} (S : Sit J ρ th env st σ H) : Sit J.blk ρ th env st σ H := ⟨S.rs, S.env, S.th⟩
theorem takesF {X : Cx} : Takes X (fun _ _ _ _ => False) := fun _ _ ⟨_, _, _, _, _, _, _, _, _, _, _, _, _, _, _, _, w⟩ => w.elim
theorem XK2.blk {X : Cx} {J : Jx} (h : XK2 X J) (s : Shared) (H : Hp) (scope : Scope) (cenv : PySem.Env) (fp : List Addr) : XK2 (X.blk s H scope cenv fp) J.blk :=
  ⟨⟨h.K, h.st, takesF⟩, h.cm, h.nd, PassesOwn.never, h.gd⟩
theorem wipe_idem (σ : L2.St) (vs : List Nat) : L2.wipe (L2.wipe σ vs) vs = L2.wipe σ vs := by
  refine List.ext_getElem? fun i => ?_
  rw [wipe_get, wipe_get, wipe_length]
  by_cases hi : i ∈ vs
  · rw [if_pos hi, if_pos hi]
  · rw [if_neg hi, if_neg hi]
abbrev gU (W : Wd) (r : Res Unit) (H : Hp) (ρ : Nat → Addr) (n : Nat) (Q : Unit → Hp → Prop) : Prop := gR W (fun _ _ _ _ _ => True) (fun _ _ _ => False) r H ρ n Q
theorem gU_of {W : Wd} {H : Hp} {ρ : Nat → Addr} {n nD : Nat} {D : Addr} {r : Res Unit} {E : XK} {Q : VK} (hn : nD < n) (hD : ρ nD = D) (g : gE W E (r.quiet.bind fun _ st' => .ok (.ref nD) st') H ρ n Q) : gU W r H ρ n (fun _ H' => Q (.ref D) H') := by
  cases r with
  | ok u st' => exact fun H' ρ' x s _ => g H' ρ' (.ref D) s ⟨Nat.lt_of_lt_of_le hn s.len, by rw [s.agr nD hn, hD]⟩
  | exc e st' => exact (show False from g).elim
  | bad => exact g
/-- one turn: the target is set; the test, the element, the new item -/
def lcT (ts : DB) (el : DE) (th : Th) (D : Nat) (k : Sto → Res Unit) (env1 : Env) (st : Sto) : Res Unit := (ts th env1 st).bind fun b st => match b with
  | true => (el th env1 st).bind fun y st => match st[D]? with
    | some (.lst acc) => if Nat.blt acc.length 16777216 = true then k (st.set D (.lst (acc ++ [y]))) else .bad
    | _ => .bad
  | false => k st
section
variable {X : Cx} {J : Jx}
theorem rd_turn (J2 : XJ X J) {ts : DB} {el : DE} {nD : Nat} {D : Addr} {k : Sto → Res Unit} {ρ0 ρ : Nat → Addr} {th : Th} {env1 : Env} {st0 st : Sto} {σ1 : L2.St} {H0 H : Hp} {Q : Unit → Hp → Prop} {Nx : Hp → Prop}
    (S : Sit J.blk ρ th env1 st σ1 H) (s0 : Stp J.W H0 ρ0 st0.length H ρ st) (hn : nD < st0.length) (hD : ρ0 nD = D)
    (g : gU J.W (lcT ts el th nD k env1 st) H ρ st.length Q) (fin : ∀ H' ρ' st', Stp J.W H ρ st.length H' ρ' st' → gU J.W (k st') H' ρ' st'.length Q → Nx H') :
    rdB J.blk ts σ1 H fun b H3 => if b = true then rdE J.blk el σ1 H3 fun y H4 => ∃ acc, H4 D = some (.lst acc) ∧ acc.length < sizeLine ∧ Nx (upd H4 D (.lst (acc ++ [y]))) else Nx H3 := by
  refine rd_of S (gR.bind g fun b st2 H2 ρ2 x _ s2 r2 g2 => ?_)
  have r2 : x = b := r2
  subst r2
  cases x with
  | false =>
    rw [if_neg Bool.false_ne_true]
    exact fin H2 ρ2 st2 s2 g2
  | true =>
    rw [if_pos rfl]
    refine rd_of (S.step J2.st s2) (gR.bind g2 fun y st3 H3 ρ3 yv _ s3 r3 g3 => ?_)
    have sT := (s0.trans s2).trans s3
    split at g3
    · rename_i acc ea
      split at g3
      · rename_i hz
        obtain ⟨vs, h1, h2⟩ := s3.rs.lst ea
        have e1 : ρ3 nD = D := by rw [sT.agr nD hn, hD]
        have w := Stp.setL s3.rs ea rfl (h2.append (show RVs J.W H3 ρ3 st3.length [y] [yv] from ⟨yv, [], rfl, r3, rfl⟩))
        rw [e1] at h1 w
        refine ⟨vs, h1, ?_, fin _ _ _ ((s2.trans s3).trans w) ?_⟩
        · rw [← h2.length, sizeLine_eq]
          exact Nat.le_of_ble_eq_true hz
        · exact gR.pre w g3
      · exact g3.elim
    · exact g3.elim
theorem rd_lcV (J2 : XJ X J) {xs : List PV} {It0 : It} {nD : Nat} {D : Addr} {t : Tg} {ts : DB} {el : DE} {own : List Nat} {ρ0 : Nat → Addr} {th : Th} {env0 : Env} {st0 : Sto} {σ : L2.St} {H0 : Hp} {Q : Unit → Hp → Prop} (S0 : Sit J.blk ρ0 th env0 st0 (L2.wipe σ own) H0)
    (hI : ItOK J.W H0 ρ0 st0.length (.vals xs) It0) (hn : nD < st0.length) (hD : ρ0 nD = D) (ht : ∀ i ∈ t.slots, i ∈ own) (g0 : gU J.W (lcV t ts el own th nD xs env0 st0) H0 ρ0 st0.length Q) :
    ∃ W : Nat → Nat → Hp → Prop, (∃ m, W 0 m H0) ∧ ∀ i m H, W i m H →
      (It0.stop i H ∧ Q () H) ∨ (It0.go i H ∧ ∃ Nx : Hp → Prop, (∀ H', Nx H' → ∃ m', m' < m ∧ W (i + 1) m' H') ∧ ∀ x H', It0.yld i H x H' → Tg.rd X.K t x (L2.wipe σ own) H' fun σ2 H2 => L2.wipe σ2 own = L2.wipe σ own ∧ rdB J.blk ts σ2 H2 fun b H3 =>
        if b = true then rdE J.blk el σ2 H3 fun y H4 => ∃ acc, H4 D = some (.lst acc) ∧ acc.length < sizeLine ∧ Nx (upd H4 D (.lst (acc ++ [y]))) else Nx H3) := by
  refine ⟨fun i m H => ∃ ρ st r, Sit J.blk ρ th env0 st (L2.wipe σ own) H ∧ Stp J.W H0 ρ0 st0.length H ρ st ∧ i ≤ xs.length ∧ xs.drop i = r ∧ m = r.length ∧ gU J.W (lcV t ts el own th nD r env0 st) H ρ st.length Q,
    ⟨xs.length, ρ0, st0, xs, S0, .refl S0.rs, Nat.zero_le _, rfl, rfl, g0⟩, ?_⟩
  rintro i m H ⟨ρ, st, r, S, s, hi, hr, hm, g⟩
  obtain ⟨h1, h2⟩ := hI i H ρ st s
  cases r with
  | nil => exact .inl ⟨h2 (drop_nil hr hi), g H ρ () (.refl S.rs) trivial⟩
  | cons p r =>
    obtain ⟨e1, e2⟩ := drop_get hr
    have hlt : i < xs.length := (List.getElem?_eq_some_iff.mp e1).1
    obtain ⟨h3, h4⟩ := h1 p e1
    refine .inr ⟨h3, fun H' => ∃ ρ st, Sit J.blk ρ th env0 st (L2.wipe σ own) H' ∧ Stp J.W H0 ρ0 st0.length H' ρ st ∧ gU J.W (lcV t ts el own th nD r env0 st) H' ρ st.length Q, fun H' ⟨ρ', st', S', s', g'⟩ => ?_, fun x H' y => ?_⟩
    · exact ⟨r.length, by rw [hm]; exact Nat.lt_succ_self _, ρ', st', r, S', s', hlt, e2, rfl, g'⟩
    · obtain ⟨s1, rv⟩ := h4 x H' y
      have g : gU J.W (match t.set p env0 with
        | some env1 => lcT ts el th nD (fun st => lcV t ts el own th nD r env0 st) env1 st
        | none => .bad) H ρ st.length Q := g
      split at g
      · rename_i env1 e
        rw [← J2.K]
        refine Tg.ok t p x env0 env1 _ _ rv (s1.renv S.env) e fun σ1 he1 sa => ⟨by rw [(sa.mono ht).wipe, wipe_idem], ?_⟩
        have S1 : Sit J.blk ρ th env1 st σ1 H' := S.to J2.st s1 he1
        refine rd_turn J2 S1 (s.trans s1) hn hD (gR.pre s1 g) fun H2 ρ2 st2 s2 g2 => ⟨ρ2, st2, ?_, (s.trans s1).trans s2, g2⟩
        exact S.to J2.st (s1.trans s2) ((s1.trans s2).renv S.env)
      · exact g.elim
theorem rd_lcL (J2 : XJ X J) {gg : Nat → Sto → Option (Option PV)} {It0 : It} {nD : Nat} {D : Addr} {t : Tg} {ts : DB} {el : DE} {own : List Nat} {ρ0 : Nat → Addr} {th : Th} {env0 : Env} {st0 : Sto} {σ : L2.St} {H0 : Hp} {Q : Unit → Hp → Prop} {m0 : Nat} (S0 : Sit J.blk ρ0 th env0 st0 (L2.wipe σ own) H0)
    (hI : ItOK J.W H0 ρ0 st0.length (.dyn m0 gg) It0) (hn : nD < st0.length) (hD : ρ0 nD = D) (ht : ∀ i ∈ t.slots, i ∈ own) (g0 : gU J.W (lcL t ts el own th nD gg m0 0 env0 st0) H0 ρ0 st0.length Q) :
    ∃ W : Nat → Nat → Hp → Prop, (∃ m, W 0 m H0) ∧ ∀ i m H, W i m H →
      (It0.stop i H ∧ Q () H) ∨ (It0.go i H ∧ ∃ Nx : Hp → Prop, (∀ H', Nx H' → ∃ m', m' < m ∧ W (i + 1) m' H') ∧ ∀ x H', It0.yld i H x H' → Tg.rd X.K t x (L2.wipe σ own) H' fun σ2 H2 => L2.wipe σ2 own = L2.wipe σ own ∧ rdB J.blk ts σ2 H2 fun b H3 =>
        if b = true then rdE J.blk el σ2 H3 fun y H4 => ∃ acc, H4 D = some (.lst acc) ∧ acc.length < sizeLine ∧ Nx (upd H4 D (.lst (acc ++ [y]))) else Nx H3) := by
  refine ⟨fun i m H => ∃ ρ st, Sit J.blk ρ th env0 st (L2.wipe σ own) H ∧ Stp J.W H0 ρ0 st0.length H ρ st ∧ gU J.W (lcL t ts el own th nD gg m i env0 st) H ρ st.length Q,
    ⟨m0, ρ0, st0, S0, .refl S0.rs, g0⟩, ?_⟩
  rintro i m H ⟨ρ, st, S, s, g⟩
  have hi := hI i H ρ st s
  cases m with
  | zero => exact g.elim
  | succ m =>
    have g : gU J.W (match gg i st with
      | some (some x) => match t.set x env0 with
        | some env1 => lcT ts el th nD (fun st => lcL t ts el own th nD gg m (i + 1) env0 st) env1 st
        | none => .bad
      | some none => .ok () st
      | none => .bad) H ρ st.length Q := g
    cases el' : gg i st with
    | none =>
      rw [el'] at g
      exact g.elim
    | some ex =>
      rw [el'] at g hi
      cases ex with
      | none =>
        exact .inl ⟨hi, g H ρ () (.refl S.rs) trivial⟩
      | some p =>
        obtain ⟨h3, h4⟩ := hi
        dsimp only at g
        refine .inr ⟨h3, fun H' => ∃ ρ st, Sit J.blk ρ th env0 st (L2.wipe σ own) H' ∧ Stp J.W H0 ρ0 st0.length H' ρ st ∧ gU J.W (lcL t ts el own th nD gg m (i + 1) env0 st) H' ρ st.length Q, fun H' h => ⟨m, Nat.lt_succ_self _, h⟩, fun x H' y => ?_⟩
        obtain ⟨s1, rv⟩ := h4 x H' y
        cases ee : t.set p env0 with
        | none =>
          rw [ee] at g
          exact g.elim
        | some env1 =>
          rw [ee] at g
          dsimp only at g
          rw [← J2.K]
          refine Tg.ok t p x env0 env1 _ _ rv (s1.renv S.env) ee fun σ1 he1 sa => ⟨by rw [(sa.mono ht).wipe, wipe_idem], ?_⟩
          have S1 : Sit J.blk ρ th env1 st σ1 H' := S.to J2.st s1 he1
          refine rd_turn J2 S1 (s.trans s1) hn hD (gR.pre s1 g) fun H2 ρ2 st2 s2 g2 => ⟨ρ2, st2, ?_, (s.trans s1).trans s2, g2⟩
          exact S.to J2.st (s1.trans s2) ((s1.trans s2).renv S.env)
/-- the reading of a comprehension -/
theorem rd_lc (J2 : XJ X J) {di : DI} {t : Tg} {ts : DB} {el : DE} {own : List Nat} (ht : ∀ i ∈ t.slots, i ∈ own) {σ : L2.St} {H : Hp} {Q : VK} (h : rdE J (dLc di t ts el own) σ H Q) : tLc (rdI J di) (Tg.rd X.K t) (rdB J.blk ts) (rdE J.blk el) own σ H Q := by
  refine rd_bind J2.st h fun ρ th env st d It0 H1 S hI g => fun D hD => ?_
  have s1 : Stp J.W H1 ρ st.length (upd H1 D (.lst [])) (put ρ st.length D) (st ++ [.lst []]) := .newL S.rs hD rfl
  have len : (st ++ [SO.lst []]).length = st.length + 1 := by simp
  have S1 : Sit J.blk (put ρ st.length D) th (wipeE env own) (st ++ [.lst []]) (L2.wipe σ own) (upd H1 D (.lst [])) := S.blk.to (J := J.blk) J2.st s1 ((s1.renv S.env).wipe own)
  have hn : st.length < (st ++ [SO.lst []]).length := by omega
  split at g
  · rename_i xs
    refine rd_lcV (Q := fun _ H' => Q (.ref D) H') J2 S1 (fun i H' ρ' st' s' => hI i H' ρ' st' (s1.trans s')) hn put_same ht (gU_of hn put_same (gR.pre s1 g))
  · exact rd_lcL (Q := fun _ H' => Q (.ref D) H') J2 S1 (fun i H' ρ' st' s' => hI i H' ρ' st' (s1.trans s')) hn put_same ht (gU_of hn put_same (gR.pre s1 g))
theorem pts_of {c : Expr} {dt : DB} (h : PT X c (rdB J dt)) : PTs X [c] (rdB J dt) := pts_one h
theorem pts_yes : PTs X [] (rdB J dYes) := ⟨fun pins s σ H Q I h => pts_nil.run pins s σ H Q I (by
  obtain ⟨ρ, th, env, st, S, g⟩ := h
  exact g H ρ true (.refl S.rs) rfl)⟩
theorem xe_lc {elt tg iter : Expr} {ifs : List Expr} {scope : Scope} {own : List (Str × Nat)} {pos : Pos} {di : DI} {t : Tg} {ts : DB} {el : DE} (J2 : XK2 X J) (hi : PI X tg iter (rdI J di)) (ok : blkC X.N X.env.scope scope own = true) (hsl : (t.slots.all fun i => (own.map (·.2)).contains i) = true)
    (hg : ∀ (s : Shared) (H : Hp) (C : Addr) (cl : List (Str × Addr)) (fp : List Addr), PG (X.blk s H scope (compEnvC scope cl C X.env) fp) tg (Tg.rd X.K t)) (ht : ∀ (s : Shared) (H : Hp) (C : Addr) (cl : List (Str × Addr)) (fp : List Addr), PTs (X.blk s H scope (compEnvC scope cl C X.env) fp) ifs (rdB J.blk ts))
    (he : ∀ (s : Shared) (H : Hp) (C : Addr) (cl : List (Str × Addr)) (fp : List Addr), PE (X.blk s H scope (compEnvC scope cl C X.env) fp) elt (rdE J.blk el)) (hs : ∀ x, foldedSetIterable iter X.env x = pure x := by intro _; rfl) :
    PE X (.ListComp elt [⟨tg, iter, ifs, 0⟩] scope pos) (rdE J (dLc di t ts el (own.map (·.2)))) :=
  PE.imp (pe_lc J2.cm J2.nd hi (blkOk_by ok) hg ht he hs) fun σ H Q h => rd_lc J2.toXJ (fun i hi => by simpa using List.all_eq_true.mp hsl i hi) h
theorem ys_setLc {i : Nat} {y : Str} {py : Pos} {elt tg iter : Expr} {ifs : List Expr} {scope : Scope} {own : List (Str × Nat)} {pos spos : Pos} {di : DI} {t : Tg} {ts : DB} {el : DE} (J2 : XK2 X J) (hy : X.N[i]? = some y) (hyl : X.env.scope.names.lookup y = some .local)
    (hsw : swapsWith (.ListComp elt [⟨tg, iter, ifs, 0⟩] scope pos) (some (.Name y py)) spos.line X.env = pure true) (hi : PI X tg iter (rdI J di)) (ok : blkC X.N X.env.scope scope own = true) (hsl : (t.slots.all fun i => (own.map (·.2)).contains i) = true)
    (hg : ∀ (s : Shared) (H : Hp) (C : Addr) (cl : List (Str × Addr)) (fp : List Addr), PG (X.blk s H scope (compEnvC scope cl C X.env) fp) tg (Tg.rd X.K t)) (ht : ∀ (s : Shared) (H : Hp) (C : Addr) (cl : List (Str × Addr)) (fp : List Addr), PTs (X.blk s H scope (compEnvC scope cl C X.env) fp) ifs (rdB J.blk ts))
    (he : ∀ (s : Shared) (H : Hp) (C : Addr) (cl : List (Str × Addr)) (fp : List Addr), PE (X.blk s H scope (compEnvC scope cl C X.env) fp) elt (rdE J.blk el)) (hs : ∀ x, foldedSetIterable iter X.env x = pure x := by intro _; rfl) :
    PS X (.Assign [.Name y py] (.ListComp elt [⟨tg, iter, ifs, 0⟩] scope pos) spos) (rdS J (dSet (.nm i) (dLc di t ts el (own.map (·.2))))) :=
  PS.imp (ps_setLc J2.cm J2.nd hy hyl hsw hi (blkOk_by ok) hg ht he hs) fun D σ H h => by
    have h2 := rs_set J2.toXJ h
    exact rd_lc (σ := σ) J2.toXJ (fun i hi => by simpa using List.all_eq_true.mp hsl i hi) h2
end
end Mi
end
section
set_option maxRecDepth 100000
set_option maxHeartbeats 4000000
namespace Mi
open PySem PySem.Spec PyProof.Rows L2
/-! ### what the iterators of the layer walk -/
section
variable {W : Wd} {H0 : Hp} {ρ0 : Nat → Addr} {n0 : Nat}
theorem it_lst {k m : Nat} (hk : k < n0) : ItOK W H0 ρ0 n0 (.dyn m (lstG k)) (Itl W.K (ρ0 k)) := fun i H ρ st s => by
  unfold lstG
  cases e : lstAt st k with
  | none => trivial
  | some xs =>
    obtain ⟨vs, q, hv⟩ := s.rs.seq e
    rw [s.agr k hk] at q
    dsimp only
    cases ex : xs[i]? with
    | none => exact ⟨vs, q, by rw [← hv.length]; exact List.getElem?_eq_none_iff.mp ex⟩
    | some p =>
      obtain ⟨v, e1, rv⟩ := hv.get ex
      refine ⟨⟨vs, v, q, e1⟩, fun x H' ⟨e2, y⟩ => ?_⟩
      subst e2
      have e3 := y vs q
      rw [e1] at e3
      cases e3
      exact ⟨.refl s.rs, rv⟩
theorem it_tup {a : Addr} {ps : List PV} {vs : List V} (hs : SqT W.K H0 a vs) (hv : RVs W H0 ρ0 n0 ps vs) : ItOK W H0 ρ0 n0 (.vals ps) (Itt W.K a) := fun i H ρ st s => by
  have hq := s.ext.sqT hs
  have hr := s.rvs hv
  refine ⟨fun p e => ?_, fun e => ⟨vs, hq, by rw [← hv.length, e]; exact Nat.le_refl _⟩⟩
  obtain ⟨v, e1, rv⟩ := hr.get e
  refine ⟨⟨vs, v, hq, e1⟩, fun x H' ⟨e2, y⟩ => ?_⟩
  subst e2
  have e3 := y vs hq
  rw [e1] at e3
  cases e3
  exact ⟨.refl s.rs, rv⟩
theorem it_str {xs : List Nat} : ItOK W H0 ρ0 n0 (.vals (xs.map fun c => .str [c])) (Its ⟨xs.toArray⟩) := fun i H ρ st s => by
  refine ⟨fun p e => ?_, fun e => by
    show xs.toArray.size ≤ i
    rw [e, List.length_map, List.size_toArray] <;> exact Nat.le_refl _⟩
  rw [List.getElem?_map] at e
  cases ex : xs[i]? with
  | none =>
    rw [ex] at e
    cases e
  | some c =>
    rw [ex] at e
    cases e
    have hl : i < xs.length := (List.getElem?_eq_some_iff.mp ex).1
    refine ⟨by
      show i < xs.toArray.size
      rw [List.size_toArray]
      exact hl, fun x H' ⟨e2, d, e3, e4⟩ => ?_⟩
    subst e2 e4
    have e5 : xs.toArray[i]? = some d := e3
    rw [List.getElem?_toArray, ex] at e5
    cases e5
    exact ⟨.refl s.rs, rfl⟩
def rngV (lo c : Int) : Nat → List PV
  | 0 => []
  | n + 1 => .int lo :: rngV (lo + c) c n
theorem rngV_get (c : Int) : ∀ (n : Nat) (lo : Int) (i : Nat) (p : PV), (rngV lo c n)[i]? = some p → i < n ∧ p = .int (lo + (i : Nat) * c)
  | 0, lo, i, p, e => by simp [rngV] at e
  | n + 1, lo, 0, p, e => by
    simp [rngV] at e
    subst e
    exact ⟨Nat.succ_pos _, by simp⟩
  | n + 1, lo, i + 1, p, e => by
    obtain ⟨h1, h2⟩ := rngV_get c n (lo + c) i p (by simpa [rngV] using e)
    refine ⟨Nat.succ_lt_succ h1, ?_⟩
    rw [h2]
    congr 1
    push_cast
    rw [Int.add_mul, Int.one_mul]
    omega
theorem rngV_len (c : Int) : ∀ (n : Nat) (lo : Int), (rngV lo c n).length = n
  | 0, _ => rfl
  | n + 1, lo => by rw [rngV, List.length_cons, rngV_len c n]
theorem it_rng {lo : Int} {n : Nat} : ItOK W H0 ρ0 n0 (.vals (rngV lo 1 n)) (Itr lo n) := fun i H ρ st s => by
  refine ⟨fun p e => ?_, fun e => by
    rw [rngV_len] at e
    exact Nat.le_of_eq e.symm⟩
  obtain ⟨h1, h2⟩ := rngV_get 1 n lo i p e
  refine ⟨h1, fun x H' ⟨e2, e3⟩ => ?_⟩
  subst e2 e3 h2
  exact ⟨.refl s.rs, by rw [Int.mul_one]; rfl⟩
theorem it_rngC {lo c : Int} {n : Nat} : ItOK W H0 ρ0 n0 (.vals (rngV lo c n)) (Itc lo c n) := fun i H ρ st s => by
  refine ⟨fun p e => ?_, fun e => by
    rw [rngV_len] at e
    exact Nat.le_of_eq e.symm⟩
  obtain ⟨h1, h2⟩ := rngV_get c n lo i p e
  refine ⟨h1, fun x H' ⟨e2, e3⟩ => ?_⟩
  subst e2 e3 h2
  exact ⟨.refl s.rs, rfl⟩
end
/-! ### combinators -/
/-- a list, a tuple, a text, walked -/
def itOf (v : PV) (st : Sto) : Res ItD := match v with
  | .ref k => match lstAt st k with
    | some xs => .ok (.dyn (xs.length + 1) (lstG k)) st
    | none => .bad
  | .tup xs => .ok (.vals xs) st
  | .str s => .ok (.vals (s.map fun c => .str [c])) st
  | _ => .bad
def dIt (d : DE) : DI := fun th env st => (d th env st).bind fun v st => itOf v st
def okI (i : Int) : Bool := decide (-(2 ^ 62) ≤ i) && decide (i < 2 ^ 62)
theorem okI_le {i : Int} (h : okI i = true) : -(2 ^ 62) ≤ i ∧ i < 2 ^ 62 := by
  unfold okI at h
  rw [Bool.and_eq_true] at h
  exact ⟨of_decide_eq_true h.1, of_decide_eq_true h.2⟩
def fRng1 (xs : List PV) (st : Sto) : Res ItD := match xs with
  | [.int j] => if okI j = true then .ok (.vals (rngV 0 1 j.toNat)) st else .bad
  | _ => .bad
def fRng2 (xs : List PV) (st : Sto) : Res ItD := match xs with
  | [.int i, .int j] => if (okI i && okI j) = true then .ok (.vals (rngV i 1 (j - i).toNat)) st else .bad
  | _ => .bad
def okC (i j c : Int) (n : Nat) : Bool := (c != 0) && decide (c.natAbs < 1073741824) && Builtin.Range.small i j c && (Builtin.Range.rangeSize i j c == n)
def fRng3 (xs : List PV) (st : Sto) : Res ItD := match xs with
  | [.int i, .int j, .int c] => if okC i j c (Builtin.Range.rangeSize i j c).toNat = true then .ok (.vals (rngV i c (Builtin.Range.rangeSize i j c).toNat)) st else .bad
  | _ => .bad
def dRng (f : List PV → Sto → Res ItD) (a : DL) : DI := fun th env st => (a th env st).bind fun xs st => f xs st
section
variable {X : Cx} {J : Jx} {tg e : Expr} {de : DE}
theorem PI.imp {iter : Expr} {w w' : TI} (h : PI X tg iter w) (k : ∀ σ H R, w' σ H R → w σ H R) : PI X tg iter w' := ⟨fun pins s σ H R I q => h.run pins s σ H R I (k σ H R q)⟩
theorem PI.byCases {iter : Expr} {w' : TI} (k : ∀ σ H R, w' σ H R → ∃ w : TI, PI X tg iter w ∧ w σ H R) : PI X tg iter w' := ⟨fun pins s σ H R I q => by
  obtain ⟨w, h, q⟩ := k σ H R q
  exact h.run pins s σ H R I q⟩
theorem xi_val (J2 : XJ X J) (he : PE X e (rdE J de)) : PI X tg e (rdI J (dIt de)) := PI.byCases fun σ H R h => by
  obtain ⟨ρ, th, env, st, S, g⟩ := h
  unfold dIt at g
  cases r : de th env st with
  | bad =>
    rw [r] at g
    exact g.elim
  | exc x st' =>
    refine ⟨_, pi_list he, ρ, th, env, st, S, ?_⟩
    rw [r] at g ⊢
    exact g
  | ok v st' =>
    rw [r] at g
    replace g : gR J.W (fun H ρ n p x => ItOK J.W H ρ n p x) (fun c dd H' => J.Wx c dd σ H') (itOf v st') H ρ st.length R := g
    unfold itOf at g
    split at g
    · split at g
      · rename_i k xs ex
        refine ⟨_, pi_list he, ρ, th, env, st, S, ?_⟩
        rw [r]
        intro H' ρ' x s rv
        obtain ⟨hk, rfl⟩ := rv
        obtain ⟨vs, q, _⟩ := s.rs.seq ex
        exact ⟨_, rfl, ⟨vs, by rw [← J2.K]; exact q⟩, by rw [← J2.K]; exact g H' ρ' _ s (it_lst hk)⟩
      · exact g.elim
    · refine ⟨_, pi_tup he, ρ, th, env, st, S, ?_⟩
      rw [r]
      intro H' ρ' x s rv
      obtain ⟨a, vs, rfl, hs, hv⟩ := rv
      exact ⟨_, rfl, ⟨vs, by rw [← J2.K]; exact hs⟩, by rw [← J2.K]; exact g H' ρ' _ s (it_tup hs hv)⟩
    · refine ⟨_, pi_str he, ρ, th, env, st, S, ?_⟩
      rw [r]
      intro H' ρ' x s rv
      exact ⟨_, rv, g H' ρ' _ s it_str⟩
    · exact g.elim
theorem xi_rng1 {a : Expr} {dl : DL} {p pos : Pos} (J2 : XJ X J) (hg : Gl X "range") (hm : X.mg "range" = none) (ha : PA X [a] (rdL J dl)) (hs : starEach [a] X.env = [(false, eval a X.env)] := by rfl) : PI X tg (.Call (.Name "range" p) [a] [] pos) (rdI J (dRng fRng1 dl)) :=
  PI.imp (pi_range1 hg hm ha hs) fun σ H R h => rd_bind J2.st h fun ρ th env st v x H1 S rv g => by
    unfold fRng1 at g
    split at g
    · split at g
      · rename_i j hj
        obtain ⟨y, rfl, ry⟩ := rv.one
        have ry : y = .int j := ry
        subst ry
        exact ⟨j, rfl, (okI_le hj).1, (okI_le hj).2, g H1 ρ _ (.refl S.rs) it_rng⟩
      · exact g.elim
    · exact g.elim
theorem xi_rng2 {a b : Expr} {dl : DL} {p pos : Pos} (J2 : XJ X J) (hg : Gl X "range") (hm : X.mg "range" = none) (ha : PA X [a, b] (rdL J dl)) (hs : starEach [a, b] X.env = [(false, eval a X.env), (false, eval b X.env)] := by rfl) (hs2 : starEach [b] X.env = [(false, eval b X.env)] := by rfl) :
    PI X tg (.Call (.Name "range" p) [a, b] [] pos) (rdI J (dRng fRng2 dl)) :=
  PI.imp (pi_range2 hg hm ha hs hs2) fun σ H R h => rd_bind J2.st h fun ρ th env st v x H1 S rv g => by
    unfold fRng2 at g
    split at g
    · split at g
      · rename_i i j hj
        rw [Bool.and_eq_true] at hj
        obtain ⟨y, z, rfl, ry, rz⟩ := rv.two
        have ry : y = .int i := ry
        have rz : z = .int j := rz
        subst ry rz
        exact ⟨i, j, rfl, ⟨(okI_le hj.1).1, (okI_le hj.1).2, (okI_le hj.2).1, (okI_le hj.2).2⟩, g H1 ρ _ (.refl S.rs) it_rng⟩
      · exact g.elim
    · exact g.elim
theorem xi_rng3 {a b c : Expr} {dl : DL} {p pos : Pos} (J2 : XJ X J) (hg : Gl X "range") (hm : X.mg "range" = none) (ha : PA X [a, b, c] (rdL J dl)) (hs : starEach [a, b, c] X.env = (false, eval a X.env) :: starEach [b, c] X.env := by rfl) (hpl : (backTo pos (starEach [b, c] X.env)).any (·.1) = false := by rfl) :
    PI X tg (.Call (.Name "range" p) [a, b, c] [] pos) (rdI J (dRng fRng3 dl)) :=
  PI.imp (pi_range3 hg hm ha hs hpl) fun σ H R h => rd_bind J2.st h fun ρ th env st v x H1 S rv g => by
    unfold fRng3 at g
    split at g
    · split at g
      · rename_i i j k hj
        unfold okC at hj
        rw [Bool.and_eq_true, Bool.and_eq_true, Bool.and_eq_true] at hj
        obtain ⟨⟨⟨h1, h2⟩, h3⟩, h4⟩ := hj
        obtain ⟨y, z, u, rfl, ry, rz, ru⟩ := rv.three
        have ry : y = .int i := ry
        have rz : z = .int j := rz
        have ru : u = .int k := ru
        subst ry rz ru
        exact ⟨i, j, k, _, rfl, ⟨bne_iff_ne.mp h1, of_decide_eq_true h2, h3, eq_of_beq h4⟩, g H1 ρ _ (.refl S.rs) it_rngC⟩
      · exact g.elim
    · exact g.elim
end
/-! ### enumerate of a tuple, of a text -/
/-- the i-th item with its number, in a new tuple -/
def Ien (J0 : It) : It := ⟨J0.go, fun i H v H' => ∃ T x, v = .ref T ∧ H T = none ∧ H' = upd H T (.tup [.int i, x]) ∧ J0.yld i H x H, J0.stop⟩
theorem turn_enumD {P : Program} {w : World} {K : PySem.W.Frag} {elts : List Expr} {kk : Nat} {tpos : Pos} {e it : Addr} {tnI : Nat → Heap → Prop} {J0 : It} (hne : e ≠ it)
    (cell : ∀ i h, tnI i h → ∃ o, h.get? it = some o ∧ ∀ v, o.data ≠ .cell v) (keep : ∀ i h h', tnI i h → (∀ o, h.get? it = some o → h'.get? it = some o) → tnI i h')
    (dr : ∀ (X : Cx), X.prog = P → X.w = w → X.K = K → ∀ (pins : List (Addr × Obj)) (σ : L2.St) (H : Hp) (s : Shared), Inv X pins σ H s → ∀ i, tnI i s.heap → (∃ c old, IsEnum s.heap e it c old) → J0.go i H ∨ J0.stop i H →
      ∃ (fp : List Addr) (n : Nat) (Pv : Nat → Value → Prop) (St : Nat → Heap → Prop), it ∈ fp ∧ e ∉ fp ∧ (∀ A : Around, A.handled = none → Draws P w A it fp n Pv St) ∧ St i s.heap ∧ (∀ h, St (i + 1) h → tnI (i + 1) h) ∧
        (J0.go i H → i < n ∧ ∀ y, Pv i y → ∃ x, RelV x y ∧ J0.yld i H x H) ∧ (J0.stop i H → i = n)) :
    Turn P w K (.Tuple elts kk tpos) (Ien J0) [e, it] e (fun i h => (∃ old, IsEnum h e it (i : Nat) old) ∧ tnI i h) where
  mem := List.mem_cons_self
  obj := fun i h st b hb => by
    obtain ⟨⟨old, he⟩, ht⟩ := st
    rcases List.mem_cons.mp hb with z | z
    · rw [z]
      exact ⟨_, he, fun v q => nomatch q⟩
    · rw [List.mem_singleton.mp z]
      exact cell i h ht
  keep := fun i h h' st k => ⟨let ⟨old, he⟩ := st.1; ⟨old, k e List.mem_cons_self _ he⟩, keep i h h' st.2 fun o q => k it (List.mem_cons_of_mem _ List.mem_cons_self) o q⟩
  item := by
    intro X hP hw hK hc i pins s σ H E I hf st hg
    obtain ⟨⟨old, he⟩, ht⟩ := st
    obtain ⟨fp, n, Pv, St, m1, m2, D, hst, back, hgo, _⟩ := dr X hP hw hK pins σ H s I i ht ⟨_, old, he⟩ (.inl hg)
    obtain ⟨hin, hy⟩ := hgo hg
    subst hP hw
    have e0 : (0 : Int) + (i : Nat) = (i : Nat) := Int.zero_add _
    have el : e < s.heap.objs.size := Heap.lt_size he
    obtain ⟨oi, hoi, _⟩ := cell i s.heap ht
    refine (GoesN.enumFrom (elts := elts) (x1 := kk) (pos := tpos) 0 (D X.A.in1 (I.ok.hd hc)) e hne m2 m1).goes i s (fun v s2 => ∃ x H', Inv X pins σ H' s2 ∧ RelV x v ∧ (Ien J0).yld i H x H' ∧ ((∃ old, IsEnum s2.heap e it ((i + 1 : Nat) : Int) old) ∧ tnI (i + 1) s2.heap) ∧ ∀ b ∈ [e, it], H' b = none) E hin ⟨⟨old, by rw [e0]; exact he⟩, hst⟩ fun v h' tk hY st' hk _ => ?_
    obtain ⟨T, t, y, rfl, hT, hPy, hI⟩ := hY
    obtain ⟨x, rx, yx⟩ := hy y hPy
    obtain ⟨ho, hx1, hx2, hx3⟩ := hI
    have new : ObjOk X.prog X.w (upd H T (.tup [.int (i : Nat), x])) h' T (.tup [.int (i : Nat), x]) :=
      ⟨by show 2 ≤ sizeLine; decide, [.int (0 + ((i : Nat) : Int)) t, y], .cons ⟨t, by rw [e0]⟩ (.cons rx .nil), ⟨ho, hx1, hx2, hx3⟩⟩
    have I1 : Inv X pins σ (upd H T (.tup [.int (i : Nat), x])) { s with heap := h', toks := tk } := I.turnedNew (ch := [e, it]) (fun b o hb q => hk b o hb q) hf hT new
    refine ⟨.ref T, _, I1, rfl, ⟨T, x, rfl, I.hok.fresh hT, rfl, yx⟩, ⟨?_, back _ st'.2⟩, fun b hb => ?_⟩
    · obtain ⟨old', he'⟩ := st'.1
      rw [Int.zero_add] at he'
      exact ⟨old', he'⟩
    · have hlt : b < s.heap.objs.size := by
        rcases List.mem_cons.mp hb with z | z
        · rw [z]
          exact el
        · rw [List.mem_singleton.mp z]
          exact Heap.lt_size hoi
      rw [upd_ne (Nat.ne_of_lt (Nat.lt_of_lt_of_le hlt hT))]
      exact (hf b hb).1
  done := by
    intro X hP hw hK hc i pins s σ H E I hf st hg
    obtain ⟨⟨old, he⟩, ht⟩ := st
    obtain ⟨fp, n, Pv, St, m1, m2, D, hst, back, _, hstop⟩ := dr X hP hw hK pins σ H s I i ht ⟨_, old, he⟩ (.inr hg)
    have hn := hstop hg
    subst hP hw hn
    have e0 : (0 : Int) + (i : Nat) = (i : Nat) := Int.zero_add _
    exact (GoesN.enumFrom (elts := elts) (x1 := kk) (pos := tpos) 0 (D X.A.in1 (I.ok.hd hc)) e hne m2 m1).stops s (fun s1 => Inv X pins σ H s1) E ⟨⟨old, by rw [e0]; exact he⟩, hst⟩ fun h' tk hk _ => I.turnedL (ch := [e, it]) (fun b o hb q => hk b o hb q) hf
  self := fun A i s Q E st h => by
    obtain ⟨⟨old, he⟩, _⟩ := st
    exact wpAny_pyIter_enum he h
end Mi
end
section
set_option maxRecDepth 100000
set_option maxHeartbeats 4000000
namespace Mi
open PySem PySem.Spec PyProof.Rows L2
open Sem (wp)
theorem meets_enumB {v : Value} {ob : Obj} {Hv : Heap → Prop} (B : Begins v ob Hv) :
    Meets (Builtin.«enumerate.__new__» ⟨[.type "enumerate", v], []⟩) (fun _ R s => Hv s.heap ∧
      R (.ok (.ret (.ref (s.heap.push ob).objs.size))) { s with heap := (s.heap.push ob).push { cls := .type "enumerate", data := .fields #[.none, .bool false, .ref s.heap.objs.size, rawInt 0, .none, .none] } }) :=
  .of_wp fun prog w A R s hh => by
    obtain ⟨h0, gens, drawn, toks, os⟩ := s
    obtain ⟨hv, hh⟩ := hh
    have sub0 := sub_enumerate
    have it0 : ∀ {A' : Around} {E : Value → Shared → Prop} {Q : Value → Shared → Prop}, Q (.ref h0.objs.size) ⟨h0.push ob, gens, drawn, toks, os⟩ → wpAny (model prog w) A' (pyIter v) Q E ⟨h0, gens, drawn, toks, os⟩ := fun q =>
      B.iter prog w _ _ ⟨h0, gens, drawn, toks, os⟩ _ hv q
    wp_walk using it0
    refine wpAny_stack_any fun stk => wpAny_pure ?_
    split
    · rename_i cc _ _ _ _ _
      cases (cc == Value.type "enumerate")
      · wp_walk using it0
        exact ⟨_, rfl, hh⟩
      · wp_walk using it0
        exact ⟨_, rfl, hh⟩
    · wp_walk using it0
      exact ⟨_, rfl, hh⟩
section
variable {prog : Program} {w : World} {A : Around} {E : Value → Shared → Prop} {s : Shared}
theorem enumB1 {v : Value} {ob : Obj} {Hv : Heap → Prop} {Q : Value → Shared → Prop} (B : Begins v ob Hv) (hv : Hv s.heap)
    (h : ∀ h', IsEnum h' (s.heap.objs.size + 1) s.heap.objs.size 0 .none → h'.get? s.heap.objs.size = some ob → (∀ b o, s.heap.get? b = some o → h'.get? b = some o) → Q (.ref (s.heap.objs.size + 1)) { s with heap := h' }) :
    wpAny (model prog w) A (call (.type "enumerate") [v]) Q E s := by
  refine callType_new F.called_enumerate (by decide) (F.typeCall_enumerate_1 _) (F.newCall_enumerate_1 _) (fun x => F.args_object_init_2 x _) F.entry_enumerate_new (meets_enumB B) ⟨hv, ?_⟩
  have z1 : (s.heap.push ob).objs.size = s.heap.objs.size + 1 := Heap.size_push ..
  have z2 := Heap.get?_push_size (s.heap.push ob) (o := { cls := .type "enumerate", data := .fields #[.none, .bool false, .ref s.heap.objs.size, rawInt 0, .none, .none] }) rfl
  show _ ∧ _
  rw [z1] at z2 ⊢
  exact ⟨⟨_, z2, rfl⟩, h _ z2 (Heap.get?_push_of_some _ (Heap.get?_push_size _ B.free)) fun b o q => Heap.get?_push_of_some _ (Heap.get?_push_of_some _ q)⟩
end
/-- what is drawn of a tuple; its end is its length -/
def Itt1 (K : PySem.W.Frag) (a : Addr) : It := { Itt K a with stop := fun i H => ∃ xs, SqT K H a xs ∧ xs.length = i }
def Its1 (x : Str) : It := { Its x with stop := fun i _ => x.cps.size = i }
section
variable {X : Cx} {J : Jx} {e : Expr} {de : DE} {elts : List Expr} {kk : Nat} {p pos tpos : Pos} {ta : TA}
def iEnT (K : PySem.W.Frag) (ta : TA) : TI := fun σ H R => ta σ H fun vs H1 => ∃ (a : Addr) (xs : List V), vs = [.ref a] ∧ SqT K H1 a xs ∧ R (Ien (Itt1 K a)) H1
theorem pi_enT (hg : Gl X "enumerate") (hm : X.mg "enumerate" = none) (ha : PA X [e] ta) (hs : starEach [e] X.env = [(false, eval e X.env)] := by rfl) : PI X (.Tuple elts kk tpos) (.Call (.Name "enumerate" p) [e] [] pos) (iEnT X.K ta) := by
  refine ⟨fun pins s σ H R I h => Call_ (ld_blt I hg hm boot_enumerate (PyProof.Rows.callWith_type1 (thn (ha.run pos pins s σ H _ I h) fun us s1 ⟨vs, H1, I1, r1, q1⟩ => ?_) hs rfl))⟩
  obtain ⟨a, xs, ex, hq, q⟩ := q1
  subst ex
  obtain ⟨u, rfl, ru⟩ := r1.one
  cases ru
  obtain ⟨its, rv, tp, hz⟩ := I1.tuple hq
  refine enumB1 (begins_tuple a its.toArray) (show s1.heap.IsTuple a its.toArray from tp) fun h' he hit hk => wpAny_pyIter_enum he ?_
  have I2 : Inv X pins σ H1 { s1 with heap := h' } := I1.kept (t' := s1.toks) hk
  have fr : ∀ b ∈ [s1.heap.objs.size + 1, s1.heap.objs.size], FpOk X pins H1 b := fun b hb => by
    have hle : s1.heap.objs.size ≤ b := by
      rcases List.mem_cons.mp hb with z | z
      · omega
      · have := List.mem_singleton.mp z
        omega
    exact I1.fpOk hle (I1.hok.fresh hle)
  refine ⟨s1.heap.objs.size + 1, _, _, Ien (Itt1 X.K a), H1, rfl, I2, turn_enumD (e := s1.heap.objs.size + 1) (it := s1.heap.objs.size) (tnI := fun i h => h.IsTupleIter s1.heap.objs.size a i) (Nat.succ_ne_self _) (fun i h ⟨o, e1, _, e2⟩ => ⟨o, e1, fun v z => by rw [e2] at z; cases z⟩)
    (fun i h h2 ⟨o, e1, e2⟩ k => ⟨o, k o e1, e2⟩) ?_, ⟨⟨.none, he⟩, ⟨_, hit, rfl, rfl⟩⟩, fr, q⟩
  intro X' hP hw hK pins' σ' H' s' I' i ht ⟨c, old, he'⟩ hgs
  have hq' : ∃ ys, SqT X.K H' a ys := by
    rcases hgs with ⟨ys, _, hy, _⟩ | ⟨ys, hy, _⟩
    · exact ⟨ys, hy⟩
    · exact ⟨ys, hy⟩
  obtain ⟨ys, hy⟩ := hq'
  rw [← hK] at hy
  obtain ⟨its', rv', tp', _⟩ := I'.tuple hy
  have tp2 : s'.heap.IsTuple a its'.toArray := tp'
  have nea : s1.heap.objs.size + 1 ≠ a := fun z => by
    obtain ⟨o, e1, e2, _⟩ := tp2
    rw [← z, he'] at e1
    cases e1
    exact absurd (Value.type.inj e2) (by decide)
  have nia : a ≠ s1.heap.objs.size := fun z => by
    obtain ⟨o, e1, e2, _⟩ := tp2
    obtain ⟨o2, e3, e4, _⟩ := ht
    rw [z, e3] at e1
    cases e1
    rw [e4] at e2
    exact absurd (Value.type.inj e2) (by decide)
  refine ⟨[s1.heap.objs.size, a], its'.toArray.size, _, _, List.mem_cons_self, fun hm => ?_, fun A hA => Draws.tuple hA _ _ nia its'.toArray, ⟨ht, tp2⟩, fun h z => z.1, fun hgo => ?_, fun hst => ?_⟩
  · rcases List.mem_cons.mp hm with z | z
    · exact Nat.succ_ne_self _ z
    · exact nea (List.mem_singleton.mp z)
  · obtain ⟨zs, x, hz1, hx⟩ := hgo
    rw [← hK] at hz1
    have ezs := I'.tuple_inj hz1 hy
    subst ezs
    obtain ⟨u, hu, ru⟩ := rv'.get hx
    refine ⟨by rw [List.size_toArray]; exact (List.getElem?_eq_some_iff.mp hu).1, fun y hy' => ⟨x, ?_, rfl, fun ws hw' => ?_⟩⟩
    · have : its'.toArray[i]? = some y := hy'
      rw [List.getElem?_toArray, hu] at this
      cases this
      exact ru
    · rw [← hK] at hw'
      rw [I'.tuple_inj hw' hy]
      exact hx
  · obtain ⟨zs, hz1, hx⟩ := hst
    rw [← hK] at hz1
    rw [List.size_toArray, ← rv'.length, ← hx, I'.tuple_inj hz1 hy]
def iEnS (ta : TA) : TI := fun σ H R => ta σ H fun vs H1 => ∃ x, vs = [.str x] ∧ R (Ien (Its1 x)) H1
theorem pi_enS (hg : Gl X "enumerate") (hm : X.mg "enumerate" = none) (ha : PA X [e] ta) (hs : starEach [e] X.env = [(false, eval e X.env)] := by rfl) : PI X (.Tuple elts kk tpos) (.Call (.Name "enumerate" p) [e] [] pos) (iEnS ta) := by
  refine ⟨fun pins s σ H R I h => Call_ (ld_blt I hg hm boot_enumerate (PyProof.Rows.callWith_type1 (thn (ha.run pos pins s σ H _ I h) fun us s1 ⟨vs, H1, I1, r1, q1⟩ => ?_) hs rfl))⟩
  obtain ⟨x, ex, q⟩ := q1
  subst ex
  obtain ⟨u, rfl, ru⟩ := r1.one
  obtain ⟨t, rfl⟩ := ru
  refine enumB1 (begins_text x t) trivial fun h' he hit hk => wpAny_pyIter_enum he ?_
  have I2 : Inv X pins σ H1 { s1 with heap := h' } := I1.kept (t' := s1.toks) hk
  have fr : ∀ b ∈ [s1.heap.objs.size + 1, s1.heap.objs.size], FpOk X pins H1 b := fun b hb => by
    have hle : s1.heap.objs.size ≤ b := by
      rcases List.mem_cons.mp hb with z | z
      · omega
      · have := List.mem_singleton.mp z
        omega
    exact I1.fpOk hle (I1.hok.fresh hle)
  refine ⟨s1.heap.objs.size + 1, _, _, Ien (Its1 x), H1, rfl, I2, turn_enumD (e := s1.heap.objs.size + 1) (it := s1.heap.objs.size) (tnI := fun i h => h.IsStrIter s1.heap.objs.size (strIterType x) x t i) (Nat.succ_ne_self _) (fun i h ⟨o, e1, _, e2⟩ => ⟨o, e1, fun v z => by rw [e2] at z; cases z⟩)
    (fun i h h2 ⟨o, e1, e2⟩ k => ⟨o, k o e1, e2⟩) ?_, ⟨⟨.none, he⟩, ⟨_, hit, rfl, rfl⟩⟩, fr, q⟩
  intro X' hP hw hK pins' σ' H' s' I' i ht _ hgs
  refine ⟨[s1.heap.objs.size], x.cps.size, _, _, List.mem_cons_self, fun hm => Nat.succ_ne_self _ (List.mem_singleton.mp hm), fun A hA => Draws.text hA _ x t, ht, fun h z => z, fun hgo => ?_, fun hst => ?_⟩
  · refine ⟨hgo, fun y ⟨c, u, hc, hy⟩ => ⟨.str ⟨#[c]⟩, ⟨u, hy⟩, rfl, c, hc, rfl⟩⟩
  · have : x.cps.size = i := hst
    exact this.symm
end
/-! ### the readings -/
def enV : Int → List PV → List PV
  | _, [] => []
  | i, x :: xs => .tup [.int i, x] :: enV (i + 1) xs
theorem enV_get : ∀ (xs : List PV) (j : Int) (i : Nat), (enV j xs)[i]? = match xs[i]? with
    | some x => some (PV.tup [.int (j + (i : Nat)), x])
    | none => none
  | [], j, i => by simp [enV]
  | x :: xs, j, 0 => by simp [enV]
  | x :: xs, j, i + 1 => by
    have := enV_get xs (j + 1) i
    simp only [enV, List.getElem?_cons_succ]
    rw [this]
    have e : j + 1 + ((i : Nat) : Int) = j + ((i + 1 : Nat) : Int) := by push_cast; omega
    rw [e]
theorem enV_len : ∀ (xs : List PV) (j : Int), (enV j xs).length = xs.length
  | [], _ => rfl
  | x :: xs, j => by rw [enV, List.length_cons, List.length_cons, enV_len xs]
def enG (k : Nat) : Nat → Sto → Option (Option PV) := fun i st => match lstAt st k with
  | some xs => match xs[i]? with
    | some x => some (some (.tup [.int (i : Nat), x]))
    | none => some none
  | none => none
def fEn (vs : List PV) (st : Sto) : Res ItD := match vs with
  | [.ref k] => match lstAt st k with
    | some xs => .ok (.dyn (xs.length + 1) (enG k)) st
    | none => .bad
  | [.tup xs] => .ok (.vals (enV 0 xs)) st
  | [.str s] => .ok (.vals (enV 0 (s.map fun c => .str [c]))) st
  | _ => .bad
section
variable {W : Wd} {H0 : Hp} {ρ0 : Nat → Addr} {n0 : Nat}
theorem rv_pair {H : Hp} {ρ : Nat → Addr} {n : Nat} {T : Addr} {i : Int} {p : PV} {x : V} (hT : H T = none) (h : RV W H ρ n p x) : RV W (upd H T (.tup [.int i, x])) ρ n (.tup [.int i, p]) (.ref T) :=
  rv_newT (xs := [.int i, p]) (vs := [.int i, x]) hT ⟨.int i, [x], rfl, rfl, x, [], rfl, h, rfl⟩
theorem it_enL {k m : Nat} (hk : k < n0) : ItOK W H0 ρ0 n0 (.dyn m (enG k)) (Ite W.K (ρ0 k)) := fun i H ρ st s => by
  unfold enG
  cases e : lstAt st k with
  | none => trivial
  | some xs =>
    obtain ⟨vs, q, hv⟩ := s.rs.seq e
    rw [s.agr k hk] at q
    dsimp only
    cases ex : xs[i]? with
    | none => exact ⟨vs, q, by rw [← hv.length]; exact List.getElem?_eq_none_iff.mp ex⟩
    | some p =>
      obtain ⟨v, e1, rv⟩ := hv.get ex
      refine ⟨⟨vs, v, q, e1⟩, fun x H' ⟨T, y, e2, hT, e3, e4⟩ => ?_⟩
      have e5 := e4 vs q
      rw [e1] at e5
      cases e5
      subst e2 e3
      exact ⟨.newT s.rs hT, rv_pair hT rv⟩
theorem it_en {ps : List PV} {J0 : It} (h : ItOK W H0 ρ0 n0 (.vals ps) J0) (hq : ∀ i H x H', J0.yld i H x H' → H' = H) : ItOK W H0 ρ0 n0 (.vals (enV 0 ps)) (Ien J0) := fun i H ρ st s => by
  obtain ⟨h1, h2⟩ := h i H ρ st s
  refine ⟨fun p e => ?_, fun e => h2 (by rw [enV_len] at e; exact e)⟩
  rw [enV_get] at e
  cases ex : ps[i]? with
  | none =>
    rw [ex] at e
    cases e
  | some p' =>
    rw [ex] at e
    cases e
    obtain ⟨h3, h4⟩ := h1 p' ex
    refine ⟨h3, fun x H' ⟨T, y, e2, hT, e3, e4⟩ => ?_⟩
    obtain ⟨_, rv⟩ := h4 y H e4
    subst e2 e3
    refine ⟨.newT s.rs hT, ?_⟩
    rw [Int.zero_add]
    exact rv_pair hT rv
theorem it_tup1 {a : Addr} {ps : List PV} {vs : List V} (hs : SqT W.K H0 a vs) (hv : RVs W H0 ρ0 n0 ps vs) : ItOK W H0 ρ0 n0 (.vals ps) (Itt1 W.K a) := fun i H ρ st s =>
  ⟨(it_tup hs hv i H ρ st s).1, fun e => ⟨vs, s.ext.sqT hs, by rw [← hv.length]; exact e.symm⟩⟩
theorem it_str1 {xs : List Nat} : ItOK W H0 ρ0 n0 (.vals (xs.map fun c => .str [c])) (Its1 ⟨xs.toArray⟩) := fun i H ρ st s =>
  ⟨(it_str i H ρ st s).1, fun e => by
    show xs.toArray.size = i
    rw [e, List.length_map, List.size_toArray]⟩
end
section
variable {X : Cx} {J : Jx} {e : Expr} {dl : DL} {elts : List Expr} {kk : Nat} {p pos tpos : Pos}
theorem xi_enum (J2 : XJ X J) (hg : Gl X "enumerate") (hm : X.mg "enumerate" = none) (ha : PA X [e] (rdL J dl)) (hs : starEach [e] X.env = [(false, eval e X.env)] := by rfl) : PI X (.Tuple elts kk tpos) (.Call (.Name "enumerate" p) [e] [] pos) (rdI J (dRng fEn dl)) := PI.byCases fun σ H R h => by
  obtain ⟨ρ, th, env, st, S, g⟩ := h
  unfold dRng at g
  cases r : dl th env st with
  | bad =>
    rw [r] at g
    exact g.elim
  | exc x st' =>
    refine ⟨_, pi_enum hg hm ha hs, ρ, th, env, st, S, ?_⟩
    rw [r] at g ⊢
    exact g
  | ok v st' =>
    rw [r] at g
    replace g : gR J.W (fun H ρ n p x => ItOK J.W H ρ n p x) (fun c dd H' => J.Wx c dd σ H') (fEn v st') H ρ st.length R := g
    unfold fEn at g
    split at g
    · split at g
      · rename_i k xs ex
        refine ⟨_, pi_enum hg hm ha hs, ρ, th, env, st, S, ?_⟩
        rw [r]
        intro H' ρ' x s rv
        obtain ⟨y, rfl, hk, rfl⟩ := rv.one
        obtain ⟨vs, q, _⟩ := s.rs.seq ex
        exact ⟨_, vs, rfl, by rw [← J2.K]; exact q, by rw [← J2.K]; exact g H' ρ' _ s (it_enL hk)⟩
      · exact g.elim
    · refine ⟨_, pi_enT hg hm ha hs, ρ, th, env, st, S, ?_⟩
      rw [r]
      intro H' ρ' x s rv
      obtain ⟨y, rfl, a, vs, rfl, q, hv⟩ := rv.one
      exact ⟨_, vs, rfl, by rw [← J2.K]; exact q, by rw [← J2.K]; exact g H' ρ' _ s (it_en (it_tup1 q hv) fun i H x H' h => h.1)⟩
    · refine ⟨_, pi_enS hg hm ha hs, ρ, th, env, st, S, ?_⟩
      rw [r]
      intro H' ρ' x s rv
      obtain ⟨y, rfl, ry⟩ := rv.one
      exact ⟨_, by rw [ry], g H' ρ' _ s (it_en it_str1 fun i H x H' h => h.1)⟩
    · exact g.elim
end
end Mi
end
section
set_option maxRecDepth 100000
set_option maxHeartbeats 4000000
namespace Mi
open PySem PySem.Spec PyProof.Rows L2
/-! ### defs -/
def env0 (n : Nat) (ps : List PV) : Env := ps.map some ++ List.replicate (n - ps.length) none
def RS.fin : RS → Res PV
  | .rt v st => .ok v st
  | .nx _ st => .ok .non st
  | .exc e _ st => .exc e st
  | _ => .bad
def noTh : Th := fun _ => .bad
/-- a def with n slots -/
def mkF (n : Nat) (d : DS) : Fn := fun ps st => (d noTh (env0 n ps) st).fin
/-- a def's promise -/
def spN (W : Wd) (m : Nat) (F : Fn) : Sp := fun vs H Q E => ∃ ρ ps st, ps.length = m ∧ RSt W H ρ st ∧ RVs W H ρ st.length ps vs ∧ gE W E (F ps st) H ρ st.length Q
/-- F may be taken for G -/
def Ref (F G : Fn) : Prop := ∀ (W : Wd) (E : XK) (H : Hp) (ρ : Nat → Addr) (st : Sto) (ps : List PV) (vs : List V) (Q : VK), RSt W H ρ st → RVs W H ρ st.length ps vs → gE W E (F ps st) H ρ st.length Q → gE W E (G ps st) H ρ st.length Q
theorem Ref.refl (F : Fn) : Ref F F := fun _ _ _ _ _ _ _ _ _ _ h => h
abbrev noTr : TR := fun _ _ _ _ => True
theorem noTr_stays (W : Wd) : TR.Stays W noTr := fun _ _ _ _ _ _ _ _ _ => trivial
theorem REnv.start {W : Wd} {H : Hp} {ρ : Nat → Addr} {n : Nat} {N : List Str} {ps : List PV} {vs : List V} (h : RVs W H ρ n ps vs) : REnv W H ρ n (env0 N.length ps) (L2.start N vs) := by
  have hl := h.length
  refine ⟨by unfold env0 L2.start; simp [hl], fun i p e => ?_⟩
  unfold env0 at e
  unfold L2.start
  by_cases hi : i < ps.length
  · rw [List.getElem?_append_left (by simpa using hi)] at e
    rw [List.getElem?_append_left (by simpa [← hl] using hi)]
    rw [List.getElem?_map] at e ⊢
    cases ex : ps[i]? with
    | none =>
      rw [ex] at e
      cases e
    | some q =>
      rw [ex] at e
      cases e
      obtain ⟨v, h1, h2⟩ := h.get ex
      exact ⟨v, by rw [h1]; rfl, h2⟩
  · rw [List.getElem?_append_right (by simpa using hi)] at e
    rw [List.getElem?_replicate] at e
    split at e <;> cases e
section
variable {P : Program} {w : World} {K : PySem.W.Frag} {mg : Str → Option Value} {base : Heap} {x qual : Str} {params : Arguments} {body : List Stmt} {scope : Scope} {f : Addr} {fd : FuncData}
/-- the context of a def's body -/
abbrev cxB (P : Program) (w : World) (K : PySem.W.Frag) (mg : Str → Option Value) (base : Heap) (N : List Str) (qual : Str) (scope : Scope) (f : Addr) (cdv : Value) (A : Around) (outer : List PySem.Env) (s : Shared) (H : Hp) (E : XK) : Cx := cxOf (L2.CX P w) P w K mg base N qual scope f cdv A outer s H E
abbrev jxB (W : Wd) (E : XK) : Jx := ⟨W, fun c d _ H => E c d H, noTr⟩
theorem cx_ok {W : Wd} {N ps : List Str} (S : FnScope N ps scope) (hK : W.K = K) (hc : (cxB P w K mg base N qual scope f cdv A outer s H E).calm = true) (hg : A.guards = some []) : XK2 (cxB P w K mg base N qual scope f cdv A outer s H E) (jxB W E) :=
  ⟨⟨hK, noTr_stays W, takes_of rfl rfl rfl rfl⟩, hc, S.nd, passes_of rfl, hg⟩
/-- a def's promise at states in which no repr is under way -/
structure FnG (P : Program) (w : World) (K : PySem.W.Frag) (mg : Str → Option Value) (base : Heap) (k : Nat) (f : Addr) (fd : FuncData) (ps : List Str) (sp : Sp) : Prop where
  len : ∀ vs H Q E, sp vs H Q E → vs.length = ps.length
  run : ∀ (A : Around) (outer : List PySem.Env) (s : Shared) (H : Hp) (args : Args) (us : List Value) (vs : List V) (Q : VK) (E : XK), Room k A → A.guards = some [] → Env0 P w K mg base A outer s H → BindsTo s fd args (ps.zip us) → Vals vs us → sp vs H Q E →
    codeAny (model P w) A (.call (.ref f) args) (CR (L2.CX P w) outer P w H s Q E) s
theorem FnG.mono {j k : Nat} {ps : List Str} {sp : Sp} (F : FnG P w K mg base j f fd ps sp) (h : j ≤ k) : FnG P w K mg base k f fd ps sp :=
  ⟨F.len, fun A outer s H args us vs Q E hr => F.run A outer s H args us vs Q E (hr.mono h)⟩
theorem fn_ok {W : Wd} {N ps : List Str} {k : Nat} {d : DS} {G : Fn} (hK : W.K = K) (F : FunD K x qual params body scope [] [] f fd) (S : FnScope N ps scope) (hR : Ref G (mkF N.length d))
    (hb : ∀ (cdv : Value) (A : Around) (outer : List PySem.Env) (s : Shared) (H : Hp) (E : XK), Room k (A.deeper (envOfC qual scope s.heap.objs.size f cdv)) → XK2 (cxB P w K mg base N qual scope f cdv A outer s H E) (jxB W E) → PSs (cxB P w K mg base N qual scope f cdv A outer s H E) body (rdS (jxB W E) d)) :
    FnG P w K mg base (k + 1) f fd ps (spN W ps.length G) := by
  obtain ⟨oc, od, dV, kV, doc, pm, an, cdv, ct, osl, rfl, lk, hcd, _, _⟩ := F.ex
  have len : ∀ vs H Q E, spN W ps.length G vs H Q E → vs.length = ps.length := fun vs H Q E ⟨ρ, qs, st, h1, _, h2, _⟩ => by rw [← h2.length, h1]
  refine ⟨len, fun A outer s H args us vs Q E hr hg e0 hbi hv h => LamX.run_ofS lk hcd S hr e0 hbi hv (len _ _ _ _ h) fun hr' => ⟨_, hb cdv A outer s H E hr' (cx_ok S hK rfl hg), ?_⟩⟩
  obtain ⟨ρ, qs, st, h1, h2, h3, g⟩ := h
  replace g := hR W E H ρ st qs vs Q h2 h3 g
  refine ⟨ρ, noTh, env0 N.length qs, st, ⟨h2, REnv.start h3, trivial⟩, ?_⟩
  unfold mkF at g
  cases r : d noTh (env0 N.length qs) st with
  | nx env st1 =>
    rw [r] at g
    exact fun H' ρ' σ' s' _ => g H' ρ' .non s' rfl
  | rt v st1 =>
    rw [r] at g
    exact g
  | bk env st1 =>
    rw [r] at g
    exact g.elim
  | ct env st1 =>
    rw [r] at g
    exact g.elim
  | exc e env st1 =>
    rw [r] at g
    exact fun H' ρ' σ' c dd s' _ rx => g H' ρ' c dd s' rx
  | bad =>
    rw [r] at g
    exact g.elim
end
/-- a def that may be called -/
structure Cal (P : Program) (w : World) (mg : Str → Option Value) (base : Heap) (k : Nat) (x : Str) (n : Nat) (W : Wd) (F : Fn) : Prop where
  ex : ∃ (f : Addr) (fd : FuncData) (ps : List Str), ps.length = n ∧ FnG P w W.K mg base k f fd ps (spN W n F) ∧ mg x = some (.ref f) ∧ PySem.W.keepIn W.K (.ref f) = true ∧ Binds W.K fd ps []
theorem Cal.mono {P : Program} {w : World} {mg : Str → Option Value} {base : Heap} {j k : Nat} {x : Str} {n : Nat} {W : Wd} {F : Fn} (C : Cal P w mg base j x n W F) (h : j ≤ k) : Cal P w mg base k x n W F := by
  obtain ⟨f, fd, ps, h1, h2, h3⟩ := C.ex
  exact ⟨f, fd, ps, h1, h2.mono h, h3⟩
/-- a call of a def with n parameters -/
def dCall (n : Nat) (F : Fn) (a : DL) : DE := fun th env st => (a th env st).bind fun xs st1 => if Nat.beq xs.length n = true then F xs st1 else .bad
section
variable {X : Cx} {J : Jx} {k n : Nat} {F : Fn} {x : Str} {p pos : Pos} {e : Expr} {es : List Expr} {dl : DL}
theorem run_G {f : Addr} {fd : FuncData} {ps : List Str} {sp : Sp} {E : L2.St → XK} {pins : List (Addr × Obj)} {σ : L2.St} {H : Hp} {s : Shared} {Q : VK} {us : List Value} {vs : List V} (F : FnG X.prog X.w X.K X.mg X.base k f fd ps sp) (hr : Room k X.A) (hgd : X.A.guards = some [])
    (hb : Binds X.K fd ps []) (hx : ∀ σ, PassesAt (L2.CX X.prog X.w) X σ (E σ)) (I : Inv X pins σ H s) (r : Vals vs us) (h : sp vs H Q (E σ)) : wpAny (model X.prog X.w) X.A (call (.ref f) us) (EP X pins σ Q) X.xe s := by
  have hl : us.length = ps.length := by rw [← r.length]; exact F.len _ _ _ _ h
  have hbi := hb s us I.kIn (by rw [List.append_nil]; exact hl)
  rw [List.append_nil] at hbi
  refine wpAny_call (codeAny_mono (F.run X.A X.stack s H ⟨us, []⟩ us vs Q (E σ) hr hgd I.env0 hbi r h) fun res s' hq => ?_)
  match res, hq with
  | .error e, hq => exact hx σ pins H s e s' I hq
  | .ok (.ret u), hq => exact I.after hq
def tCallG (sp : Sp) (E : L2.St → XK) (t : TA) : TE := fun σ H Q => t σ H fun vs H1 => sp vs H1 Q (E σ)
theorem pe_callG {f : Addr} {fd : FuncData} {ps : List Str} {sp : Sp} {E : L2.St → XK} {t : TA} (F : FnG X.prog X.w X.K X.mg X.base k f fd ps sp) (hr : Room k X.A) (hgd : X.A.guards = some []) (hg : Gl X x) (hm : X.mg x = some (.ref f)) (hk : PySem.W.keepIn X.K (.ref f) = true) (hb : Binds X.K fd ps [])
    (hx : ∀ σ, PassesAt (L2.CX X.prog X.w) X σ (E σ)) (ha : PA X (e :: es) t) (hdb : (x == ("__debug__" : Str)) = false) (he : starEach (e :: es) X.env = (false, eval e X.env) :: starEach es X.env) (hpl : (backTo pos (starEach es X.env)).any (·.1) = false) :
    PE X (.Call (.Name x p) (e :: es) [] pos) (tCallG sp E t) :=
  ⟨fun pins s σ H Q I h => wpAny_Call_Name_kw (ld_glob I hg hm (PySem.W.callWith_K (h₀ := X.base) I.ok.mod.kin hk (thn (ha.run pos pins s σ H _ I h) fun us s1 ⟨vs, H1, I1, r, q⟩ => ⟨I1.kIn, run_G F hr hgd hb hx I1 r q⟩) he hpl) hdb)⟩
theorem pe_callG0 {f : Addr} {fd : FuncData} {ps : List Str} {sp : Sp} {E : L2.St → XK} (F : FnG X.prog X.w X.K X.mg X.base k f fd ps sp) (hr : Room k X.A) (hgd : X.A.guards = some []) (hg : Gl X x) (hm : X.mg x = some (.ref f)) (hk : PySem.W.keepIn X.K (.ref f) = true) (hb : Binds X.K fd ps [])
    (hx : ∀ σ, PassesAt (L2.CX X.prog X.w) X σ (E σ)) (hdb : (x == ("__debug__" : Str)) = false) : PE X (.Call (.Name x p) [] [] pos) (fun σ H Q => sp [] H Q (E σ)) :=
  ⟨fun pins s σ H Q I h => wpAny_Call_Name_kw (ld_glob I hg hm (PySem.W.callWith_K0 I.kIn hk (run_G F hr hgd hb hx I .nil h)) hdb)⟩
theorem xe_call (J2 : XK2 X J) (C : Cal X.prog X.w X.mg X.base k x n J.W F) (hr : Room k X.A) (hg : Gl X x) (ha : PA X (e :: es) (rdL J dl)) (hdb : (x == ("__debug__" : Str)) = false := by decide) (he : starEach (e :: es) X.env = (false, eval e X.env) :: starEach es X.env := by rfl) (hpl : (backTo pos (starEach es X.env)).any (·.1) = false := by rfl) :
    PE X (.Call (.Name x p) (e :: es) [] pos) (rdE J (dCall n F dl)) := by
  obtain ⟨f, fd, ps, h1, h2, h3, h4, h5⟩ := C.ex
  rw [J2.K] at h2 h4 h5
  refine PE.imp (pe_callG h2 hr J2.gd hg h3 h4 h5 (passAt J2.tk) ha hdb he hpl) fun σ H Q h => rd_bind J2.st h fun ρ th env st v xs H1 S rv g => ?_
  split at g
  · rename_i hl
    exact ⟨ρ, v, st, Nat.eq_of_beq_eq_true hl, S.rs, rv, g⟩
  · exact g.elim
theorem xe_call0 (J2 : XK2 X J) (C : Cal X.prog X.w X.mg X.base k x 0 J.W F) (hr : Room k X.A) (hg : Gl X x) (hdb : (x == ("__debug__" : Str)) = false := by decide) : PE X (.Call (.Name x p) [] [] pos) (rdE J (dCall 0 F dNil)) := by
  obtain ⟨f, fd, ps, h1, h2, h3, h4, h5⟩ := C.ex
  rw [J2.K] at h2 h4 h5
  refine PE.imp (pe_callG0 h2 hr J2.gd hg h3 h4 h5 (passAt J2.tk) hdb) fun σ H Q h => ?_
  obtain ⟨ρ, th, env, st, S, g⟩ := h
  exact ⟨ρ, [], st, rfl, S.rs, rfl, g⟩
/-! ### names that hold defs -/
/-- a table of defs by number: parameters, what they do -/
abbrev FTab := Nat → Option (Nat × Fn)
def dCallV (T : FTab) (i : Nat) (a : DL) : DE := fun th env st => match env[i]? with
  | some (some (.fn j)) => match T j with
    | some (n, F) => dCall n F a th env st
    | none => .bad
  | _ => .bad
/-- the table's defs may be called -/
def TabOk (P : Program) (w : World) (mg : Str → Option Value) (base : Heap) (k : Nat) (W : Wd) (T : FTab) : Prop := ∀ j n F, T j = some (n, F) → ∃ (f : Addr) (fd : FuncData) (ps : List Str), W.fa j = some f ∧ ps.length = n ∧ FnG P w W.K mg base k f fd ps (spN W n F) ∧ PySem.W.keepIn W.K (.ref f) = true ∧ Binds W.K fd ps []
theorem PE.byCases {e : Expr} {w' : TE} (k : ∀ σ H R, w' σ H R → ∃ w : TE, PE X e w ∧ w σ H R) : PE X e w' := ⟨fun pins s σ H R I q => by
  obtain ⟨w, h, q⟩ := k σ H R q
  exact h.run pins s σ H R I q⟩
def tCallLS (i : Nat) (f : Addr) (sp : Sp) (E : L2.St → XK) (t : TA) : TE := fun σ H Q => σ[i]? = some (some (.ref f)) ∧ t σ H fun vs H1 => sp vs H1 Q (E σ)
theorem pe_callLS {i : Nat} {f : Addr} {fd : FuncData} {ps : List Str} {sp : Sp} {E : L2.St → XK} {t : TA} (F : FnG X.prog X.w X.K X.mg X.base k f fd ps sp) (hr : Room k X.A) (hgd : X.A.guards = some []) (hN : X.N[i]? = some x) (hv : Vis X.env.scope x) (hk : PySem.W.keepIn X.K (.ref f) = true) (hb : Binds X.K fd ps [])
    (hx : ∀ σ, PassesAt (L2.CX X.prog X.w) X σ (E σ)) (ha : PA X (e :: es) t) (hdb : (x == ("__debug__" : Str)) = false := by decide) (hcd : (x == ("__classdict__" : Str)) = false := by decide)
    (he : starEach (e :: es) X.env = (false, eval e X.env) :: starEach es X.env := by rfl) (hpl : (backTo pos (starEach es X.env)).any (·.1) = false := by rfl) : PE X (.Call (.Name x p) (e :: es) [] pos) (tCallLS i f sp E t) := by
  refine ⟨fun pins s σ H Q I ⟨hs, ht⟩ => wpAny_Call_Name_kw (thn ((pe_var (pos := p) hN hv hdb hcd).run pins s σ H (fun v H1 => v = .ref f ∧ H1 = H) I ⟨.ref f, hs, rfl, rfl⟩) fun u s1 ⟨v, H1, I1, r1, q1⟩ => ?_)⟩
  obtain ⟨e1, e2⟩ := q1
  subst e1 e2
  cases r1
  exact PySem.W.callWith_K (h₀ := X.base) I.ok.mod.kin hk (thn (ha.run pos pins s1 σ _ _ I1 ht) fun us s2 ⟨vs, H2, I2, r, q⟩ => ⟨I2.kIn, run_G F hr hgd hb hx I2 r q⟩) he hpl
theorem xe_callV {T : FTab} {i : Nat} (J2 : XK2 X J) (C : TabOk X.prog X.w X.mg X.base k J.W T) (hr : Room k X.A) (hN : X.N[i]? = some x) (hv : Vis X.env.scope x) (ha : PA X (e :: es) (rdL J dl)) (hdb : (x == ("__debug__" : Str)) = false := by decide) (hcd : (x == ("__classdict__" : Str)) = false := by decide)
    (he : starEach (e :: es) X.env = (false, eval e X.env) :: starEach es X.env := by rfl) (hpl : (backTo pos (starEach es X.env)).any (·.1) = false := by rfl) : PE X (.Call (.Name x p) (e :: es) [] pos) (rdE J (dCallV T i dl)) := PE.byCases fun σ H Q h => by
  obtain ⟨ρ, th, env, st, S, g⟩ := h
  unfold dCallV at g
  split at g
  · rename_i j ej
    split at g
    · rename_i m F et
      obtain ⟨f, fd, ps, h0, h1, h2, h4, h5⟩ := C j m F et
      rw [J2.K] at h2 h4 h5
      obtain ⟨v, hv1, a, hv2, hv3⟩ := S.env.get i _ ej
      rw [h0] at hv2
      cases hv2
      subst hv3
      refine ⟨_, pe_callLS h2 hr J2.gd hN hv h4 h5 (passAt J2.tk) ha hdb hcd he hpl, hv1, ?_⟩
      refine rd_bind (f := fun xs _ _ st1 => if Nat.beq xs.length m = true then F xs st1 else .bad) J2.st ⟨ρ, th, env, st, S, g⟩ fun ρ th env st v xs H1 S rv g => ?_
      split at g
      · rename_i hl
        exact ⟨ρ, v, st, Nat.eq_of_beq_eq_true hl, S.rs, rv, g⟩
      · exact g.elim
    · exact g.elim
  · exact g.elim
end
end Mi
end
section
set_option maxRecDepth 100000
set_option maxHeartbeats 4000000
namespace Mi
open PySem PySem.Spec PyProof.Rows L2 LamX
/-! ### the law's call: no repr is under way there -/
/-- what is tracked at the start: the script (unless it is of the frame K), the tables -/
def hp0 (K : PySem.W.Frag) (a : Addr) (ob : Obj) (xs : List V) (ts : List Addr) : Hp := fun b => if b ∈ ts then some (.tbl #[]) else if b = a ∧ K.lookup a = none then some (.frz ob (.lst xs)) else none
section
variable {K : PySem.W.Frag} {a b : Addr} {ob : Obj} {xs : List V} {ts : List Addr}
theorem hp0_tab (h : b ∈ ts) : hp0 K a ob xs ts b = some (.tbl #[]) := if_pos h
theorem hp0_own (h : a ∉ ts) (k : K.lookup a = none) : hp0 K a ob xs ts a = some (.frz ob (.lst xs)) := (if_neg h).trans (if_pos ⟨rfl, k⟩)
theorem hp0_out (h : b ∉ ts) (k : ¬ (b = a ∧ K.lookup a = none)) : hp0 K a ob xs ts b = none := (if_neg h).trans (if_neg k)
theorem hp0_cases {o : HO} (e : hp0 K a ob xs ts b = some o) : (b ∈ ts ∧ o = .tbl #[]) ∨ (b = a ∧ K.lookup a = none ∧ o = .frz ob (.lst xs)) := by
  unfold hp0 at e
  split at e
  · rename_i h
    cases e
    exact .inl ⟨h, rfl⟩
  · split at e
    · rename_i h
      cases e
      exact .inr ⟨h.1, h.2, rfl⟩
    · cases e
end
theorem law_callG {P : Program} {w : World} {K : PySem.W.Frag} {mg mb : Str → Option Value} {k : Nat} {fa a : Addr} {cs : List (Addr × Addr)} {fd : FuncData} {x : Str} {sp : Sp} {s : Shared} {us : List Value} {ns : List Int}
    (KX : K.In s.heap) (hns : s.heap.Ns mainGlobals mg) (hbn : s.heap.Ns builtinsNs mb) (hbb : ∀ x : Str, x ≠ "__name__" → mb x = bootBuiltins x) (hlim : s.heap.NoLimit) (hgens : s.gens = #[])
    (hT : ∀ p ∈ cs, s.heap.get? p.2 = some { cls := .none, data := .fields #[] }) (nT : ∀ p ∈ cs, K.lookup p.2 = none) (C : ∀ p ∈ cs, PySem.W.CodeHd s.heap p.1 p.2)
    (hbm : ∃ (bm : Addr) (ob : Obj), mg "__builtins__" = some (.ref bm) ∧ bm ≠ builtinsNs ∧ s.heap.get? bm = some ob ∧ ob.cls = .type "module" ∧ ob.dict = some builtinsNs ∧ ob.data = .plain)
    (ha : s.heap.get? a = some { cls := .type "list", data := .seq us.toArray }) (hi : IntsAre us ns) (hl : ns.length ≤ sizeLine) (hr : Room k callerA)
    (F : ∀ base : Heap, K.In base → base.Ns mainGlobals mg → (∀ p ∈ cs, TabB base mg p.1 p.2) → FnG P w K mg base k fa fd [x] sp) (hbind : ∀ (s : Shared) (u : Value), BindsTo s fd ⟨[u], []⟩ [(x, u)])
    (hsp : ∀ H : Hp, (∀ p ∈ cs, H p.2 = some (.tbl #[])) → FzL K H a (ns.map V.int) → sp [.ref a] H (fun v _ => v = .bl true) fun _ _ _ => False) :
    codeAny (model P w) callerA (.call (.ref fa) ⟨[.ref a], []⟩) (fun r s' => r = .ok (.ret (.bool true)) ∧ OldK s.heap s'.heap ∧ s'.os = s.os ∧ AllBare s'.gens) s := by
  have rv := vals_ints hi
  have ul := hi.length
  have tabO : ∀ b ∈ cs.map (·.2), s.heap.get? b = some { cls := .none, data := .fields #[] } ∧ K.lookup b = none := fun b hb => by
    obtain ⟨p, hp, rfl⟩ := List.mem_map.mp hb
    exact ⟨hT p hp, nT p hp⟩
  have aNo : a ∉ cs.map (·.2) := fun z => by
    have q := (tabO a z).1
    rw [ha] at q
    exact absurd (congrArg Obj.data (Option.some.inj q)) (fun z => nomatch z)
  obtain ⟨H, eH⟩ : ∃ H, H = hp0 K a { cls := .type "list", data := .seq us.toArray } (ns.map V.int) (cs.map (·.2)) := ⟨_, rfl⟩
  have Hcase : ∀ {b : Addr} {o : HO}, H b = some o → (b ∈ cs.map (·.2) ∧ o = .tbl #[]) ∨ (b = a ∧ K.lookup a = none ∧ o = .frz { cls := .type "list", data := .seq us.toArray } (.lst (ns.map V.int))) := fun {b o} e => hp0_cases (by rw [← eH]; exact e)
  have Htab : ∀ p ∈ cs, H p.2 = some (.tbl #[]) := fun p hp => by
    rw [eH]
    exact hp0_tab (List.mem_map.mpr ⟨p, hp, rfl⟩)
  have listOk : ObjOk P w H s.heap a (.frz { cls := .type "list", data := .seq us.toArray } (.lst (ns.map V.int))) := ⟨ha, by rw [List.length_map]; exact hl, us, _, rv, ha⟩
  have fz : FzL K H a (ns.map V.int) := by
    cases hk : K.lookup a with
    | none => exact .inl ⟨_, by rw [eH]; exact hp0_own aNo hk⟩
    | some o =>
      have e := KX a o hk
      rw [ha] at e
      cases e
      exact .inr ⟨_, us.toArray, _, hk, rfl, rfl, rfl, by rw [List.size_toArray, ul]; exact hl, by simpa using rv⟩
  have hok : HOk P w H s.heap := fun b o e => by
    rcases Hcase e with ⟨h, rfl⟩ | ⟨rfl, _, rfl⟩
    · exact (tabO b h).1
    · exact listOk
  -- what is neither a list nor a table isn't tracked
  have free : ∀ {b : Addr} {o : Obj}, s.heap.get? b = some o → (∀ vs n, o.data ≠ .seq vs n) → o.data ≠ .fields #[] → H b = none := fun {b o} e h1 h2 => by
    cases q : H b with
    | none => rfl
    | some u =>
      rcases Hcase q with ⟨h, _⟩ | ⟨rfl, _, _⟩
      · have := (tabO b h).1
        rw [e] at this
        cases this
        exact absurd rfl h2
      · rw [ha] at e
        cases e
        exact absurd rfl (h1 _ _)
  have ns0 : ∀ {b : Addr} {m : Str → Option Value}, s.heap.Ns b m → (hidT s.heap H).Ns b m := fun ⟨o, es, ep, e, d, r⟩ =>
    ⟨o, es, ep, hidT_get e (free e (fun vs n z => by rw [d] at z; cases z) fun z => by rw [d] at z; cases z), d, r⟩
  have K0 : K.In (hidT s.heap H) := fun b o e => hidT_get (KX b o e) (by
    cases q : H b with
    | none => rfl
    | some u =>
      rcases Hcase q with ⟨h, _⟩ | ⟨rfl, h, _⟩
      · rw [(tabO b h).2] at e
        cases e
      · rw [h] at e
        cases e)
  have M0 : L2.Mod K mg (hidT s.heap H) := ⟨K0, ns0 hns, ⟨mb, ns0 hbn, hbb⟩, let ⟨mc, h1, h2⟩ := hlim; ⟨mc, ns0 h1, h2⟩⟩
  have TB : ∀ p ∈ cs, TabB (hidT s.heap H) mg p.1 p.2 := fun p hp => by
    have tp := hT p hp
    constructor
    · obtain ⟨o, vs, file, tf, flags, tg, inF, text, tt, e1, r1, r2, r3, rest⟩ := C p hp
      refine ⟨o, vs, file, tf, flags, tg, inF, text, tt, hidT_get e1 (free e1 (fun vs n z => by rw [r2] at z; cases z) fun z => ?_), r1, r2, r3, rest⟩
      rw [r2] at z
      cases z
      simp at r3
    · obtain ⟨bm, ob, b1, b2, b3, b4, b5, b6⟩ := hbm
      have ng : bm ≠ mainGlobals := fun z => by
        obtain ⟨o, es, ep, e, d, _⟩ := hns
        rw [z, e] at b3
        cases b3
        rw [d] at b6
        cases b6
      have np : bm ≠ p.2 := fun z => by
        rw [z, tp] at b3
        cases b3
        cases b6
      exact ⟨bm, ob, b1, b2, ng, np, hidT_get b3 (free b3 (fun vs n z => by rw [b6] at z; cases z) fun z => by rw [b6] at z; cases z), b4, b5, b6⟩
    · intro z
      obtain ⟨o, es, ep, e, d, _⟩ := hns
      rw [z, tp] at e
      cases e
      cases d
  have e0 : Env0 P w K mg (hidT s.heap H) callerA [] s H := ⟨rfl, M0, fun b o e => of_hidT e, Nat.le_of_eq (hidT_size _ _), trivial, fun b hb => absurd hb List.not_mem_nil, hok, .of_eq hgens⟩
  refine codeAny_mono ((F _ K0 (ns0 hns) TB).run callerA [] s H ⟨[.ref a], []⟩ [.ref a] [.ref a] _ _ hr rfl e0 (hbind s (.ref a)) (.cons rfl .nil) (hsp H Htab fz)) fun r s' h => ?_
  match r, h with
  | .error e, h =>
    obtain ⟨_, _, _, _, _, _, _, _, _, _, _, _, z⟩ := h
    exact z.elim
  | .ok (.ret u), ⟨v, H', os, bare, un, hok', r', q⟩ =>
    have q : v = .bl true := q
    subst q
    have r' : u = Value.bool true := r'
    subst r'
    have stay : ∀ b o, b ∉ cs.map (·.2) → s.heap.get? b = some o → s'.heap.get? b = some o := fun b o nb e => by
      cases q : H b with
      | none => exact un.keep b o e q List.not_mem_nil List.not_mem_nil
      | some u =>
        rcases Hcase q with ⟨h, _⟩ | ⟨rfl, _, rfl⟩
        · exact absurd h nb
        · have e1 := (hok' b _ (un.frzs b _ _ q)).1
          rw [ha] at e
          cases e
          exact e1
    refine ⟨rfl, ⟨fun b o e => ?_, fun b o e => ?_⟩, os, bare⟩
    · by_cases hb : b ∈ cs.map (·.2)
      · obtain ⟨p, hp, rfl⟩ := List.mem_map.mp hb
        obtain ⟨more, z⟩ := un.tbls p.2 #[] (Htab p hp)
        have e' := hT p hp
        rw [e] at e'
        cases e'
        have z2 := hok' p.2 _ z
        exact .inr (.inl ⟨((C p hp).tab (hT p hp)).isCodeTable, rfl, #[], more, rfl, z2⟩)
      · exact .inl (stay b o hb e)
    · by_cases hb : b ∈ cs.map (·.2)
      · obtain ⟨p, hp, rfl⟩ := List.mem_map.mp hb
        obtain ⟨more, z⟩ := un.tbls p.2 #[] (Htab p hp)
        exact ⟨_, hok' p.2 _ z⟩
      · exact ⟨o, stay b o hb e⟩
/-- what is known of the law's promise at the head's heap -/
def LawG (l : PySem.W.OpenLaw) (w : World) (K : PySem.W.Frag) (k n : Nat) (x : Str) (mg : Str → Option Value) (fa : Addr) (h : Heap) : Prop :=
  ∃ (fd : FuncData) (cs : List (Addr × Addr)) (sp : Sp), (∀ p ∈ cs, h.get? p.2 = some { cls := .none, data := .fields #[] }) ∧ (∀ p ∈ cs, K.lookup p.2 = none) ∧ (∀ p ∈ cs, PySem.W.CodeHd h p.1 p.2) ∧ (∀ (s : Shared) (u : Value), BindsTo s fd ⟨[u], []⟩ [(x, u)]) ∧
    (∀ (H : Hp) (a : Addr) (ns : List Int), ns.length ≤ n → (∀ z ∈ ns, Builtin.Int.intBits z ≤ 1048576) → (∀ p ∈ cs, H p.2 = some (.tbl #[])) → FzL K H a (ns.map V.int) → sp [.ref a] H (fun v _ => v = .bl true) fun _ _ _ => False) ∧
    ∀ base : Heap, K.In base → base.Ns mainGlobals mg → (∀ p ∈ cs, TabB base mg p.1 p.2) → FnG l.prog w K mg base k fa fd [x] sp
theorem walk_G {l : PySem.W.OpenLaw} {n k : Nat} {q : Program} {loose : List Str} {XP : (Str → Option Value) → Heap → Prop} {YP : World → Heap → Prop} {d : DefRec} {x : Str} (hn : l.most = some n) (hn2 : n ≤ sizeLine) (hdf : d.params.defaults = []) (hr : Room k callerA)
    (F : ∀ (w : World) (mg : Str → Option Value) (fa : Addr) (h : Heap), YP w h → h.Ns mainGlobals mg → mg d.name = some (.ref fa) → ∃ K : PySem.W.Frag, K.In h ∧ LawG l w K k n x mg fa h) :
    PySem.W.WalkO q loose XP YP l.row.toRowW d [] (fun f vs => PySem.call f vs) :=
  Att.attach_callB hn hdf fun w s0 s1 mg mb fa o pm cd doc a vs ns G Y ho hd hcd hmg hobj hints hlen hbits hg => by
    obtain ⟨K, KX, fd, cs, sp, h1, h2, h3, h4, h5, h6⟩ := F w mg fa _ Y G.T.g hmg
    exact law_callG KX G.T.g G.T.b G.T.builtins G.T.nolimit hg h1 h2 h3 G.T.bmain hobj hints (Nat.le_trans hlen hn2) hr h6 h4 fun H a1 a2 => h5 H a ns hlen hbits a1 a2
end Mi
end
section
set_option maxRecDepth 100000
set_option maxHeartbeats 4000000
namespace Mi
open PySem PySem.Spec PyProof.Rows L2
abbrev toS (s : List Nat) : Str := ⟨s.toArray⟩
def ofS (r : Str) : List Nat := r.cps.toList
theorem toS_ofS (r : Str) : toS (ofS r) = r := rfl
section
variable {J : Jx}
/-! ### helpers -/
def intsOf : List PV → Option (List Int)
  | [] => some []
  | .int i :: r => match intsOf r with
    | some is => some (i :: is)
    | none => none
  | _ :: _ => none
def blsOf : List PV → Option (List Bool)
  | [] => some []
  | .bl i :: r => match blsOf r with
    | some is => some (i :: is)
    | none => none
  | _ :: _ => none
def strsOf : List PV → Option (List (List Nat))
  | [] => some []
  | .str i :: r => match strsOf r with
    | some is => some (i :: is)
    | none => none
  | _ :: _ => none
variable {W : Wd} {H : Hp} {ρ : Nat → Addr} {n : Nat}
theorem rvs_ints : ∀ {ps : List PV} {is : List Int} {vs : List V}, intsOf ps = some is → RVs W H ρ n ps vs → vs = is.map V.int
  | [], is, vs, e, h => by
    cases e
    exact h
  | p :: ps, is, vs, e, ⟨v, r, e2, h1, h2⟩ => by
    cases p <;> simp only [intsOf] at e <;> try (cases e; done)
    split at e
    · rename_i i _ js ejs
      cases e
      have h1 : v = .int i := h1
      rw [e2, h1, rvs_ints ejs h2] <;> rfl
    · cases e
theorem rvs_bls : ∀ {ps : List PV} {is : List Bool} {vs : List V}, blsOf ps = some is → RVs W H ρ n ps vs → vs = is.map V.bl
  | [], is, vs, e, h => by
    cases e
    exact h
  | p :: ps, is, vs, e, ⟨v, r, e2, h1, h2⟩ => by
    cases p <;> simp only [blsOf] at e <;> try (cases e; done)
    split at e
    · rename_i i _ js ejs
      cases e
      have h1 : v = .bl i := h1
      rw [e2, h1, rvs_bls ejs h2] <;> rfl
    · cases e
theorem rvs_strs : ∀ {ps : List PV} {is : List (List Nat)} {vs : List V}, strsOf ps = some is → RVs W H ρ n ps vs → vs = (is.map toS).map V.str
  | [], is, vs, e, h => by
    cases e
    exact h
  | p :: ps, is, vs, e, ⟨v, r, e2, h1, h2⟩ => by
    cases p <;> simp only [strsOf] at e <;> try (cases e; done)
    split at e
    · rename_i i _ js ejs
      cases e
      have h1 : v = .str (toS i) := h1
      rw [e2, h1, rvs_strs ejs h2] <;> rfl
    · cases e
theorem rvs_of_strs (is : List (List Nat)) : RVs W H ρ n (is.map PV.str) ((is.map toS).map V.str) := by
  induction is with
  | nil => exact rfl
  | cons i is ih => exact ⟨_, _, rfl, rfl, ih⟩
theorem rvs_signs (is : List Nat) : RVs W H ρ n (is.map fun c => PV.str [c]) (is.map fun c => V.str ⟨#[c]⟩) := by
  induction is with
  | nil => exact rfl
  | cons i is ih => exact ⟨_, _, rfl, rfl, ih⟩
theorem rvs_of_ints (is : List Int) : RVs W H ρ n (is.map PV.int) (is.map V.int) := by
  induction is with
  | nil => exact rfl
  | cons i is ih => exact ⟨_, _, rfl, rfl, ih⟩
/-- a sequence: a list of the store, or a tuple -/
def seqOf (st : Sto) : PV → Option (List PV)
  | .ref k => lstAt st k
  | .tup xs => some xs
  | _ => none
theorem seq_ok {st : Sto} {p : PV} {x : V} {ps : List PV} (r : RSt W H ρ st) (h : RV W H ρ st.length p x) (e : seqOf st p = some ps) : ∃ a vs, x = .ref a ∧ (SqL W.K H a vs ∨ SqT W.K H a vs) ∧ RVs W H ρ st.length ps vs := by
  cases p <;> simp only [seqOf] at e <;> try (cases e; done)
  · cases e
    obtain ⟨a, vs, rfl, q, hv⟩ := h
    exact ⟨a, vs, rfl, .inr q, hv⟩
  · obtain ⟨_, rfl⟩ := h
    obtain ⟨vs, q, hv⟩ := r.seq e
    exact ⟨_, vs, rfl, .inl q, hv⟩
/-! ### len, abs, max, min, int -/
def fLen (xs : List PV) (st : Sto) : Res PV := match xs with
  | [.str s] => if szOk s.length = true then .ok (.int s.length) st else .bad
  | [p] => match seqOf st p with
    | some ys => .ok (.int ys.length) st
    | none => .bad
  | _ => .bad
abbrev rLenA (K : PySem.W.Frag) : List V → Hp → VK → Prop := fun xs H Q => ∃ x n, xs = [x] ∧ LenV K x H n ∧ Q (.int n) H
theorem ok_len : CallOK J fLen (rLenA J.W.K) := by
  intro E H ρ st ps xs Q r h g
  unfold fLen at g
  split at g
  · rename_i s
    split at g
    · rename_i hz
      obtain ⟨x, rfl, hx⟩ := h.one
      have hx : x = .str (toS s) := hx
      subst hx
      exact ⟨_, s.length, rfl, ⟨by rw [str_len]; exact szOk_le hz, (str_len s).symm⟩, g H ρ _ (.refl r) rfl⟩
    · exact g.elim
  · split at g
    · rename_i p _ ys e
      obtain ⟨x, rfl, hx⟩ := h.one
      obtain ⟨a, vs, rfl, q, hv⟩ := seq_ok r hx e
      refine ⟨_, ys.length, rfl, ?_, g H ρ _ (.refl r) rfl⟩
      rcases q with q | q
      · exact .inl ⟨vs, q, hv.length⟩
      · exact .inr ⟨vs, q, hv.length⟩
    · exact g.elim
  · exact g.elim
def fInt1 (f : Int → Int) (xs : List PV) (st : Sto) : Res PV := match xs with
  | [.int i] => .ok (.int (f i)) st
  | _ => .bad
def fAbs := fInt1 fun i => if i < 0 then -i else i
theorem ok_int1 {f : Int → Int} : CallOK J (fInt1 f) (fun xs H Q => ∃ i, xs = [.int i] ∧ Q (.int (f i)) H) := by
  intro E H ρ st ps xs Q r h g
  unfold fInt1 at g
  split at g
  · rename_i i
    obtain ⟨x, rfl, hx⟩ := h.one
    have hx : x = .int i := hx
    subst hx
    exact ⟨i, rfl, g H ρ _ (.refl r) rfl⟩
  · exact g.elim
def fInt (xs : List PV) (st : Sto) : Res PV := match xs with
  | [.int i] => .ok (.int i) st
  | [.bl k] => .ok (.int (if k then 1 else 0)) st
  | _ => .bad
abbrev rIntA : List V → Hp → VK → Prop := fun xs H Q => (∃ i, xs = [.int i] ∧ Q (.int i) H) ∨ ∃ k, xs = [.bl k] ∧ Q (.int (if k then 1 else 0)) H
theorem ok_intA : CallOK J fInt rIntA := by
  intro E H ρ st ps xs Q r h g
  unfold fInt at g
  split at g
  · rename_i i
    obtain ⟨x, rfl, hx⟩ := h.one
    have hx : x = .int i := hx
    subst hx
    exact .inl ⟨i, rfl, g H ρ _ (.refl r) rfl⟩
  · rename_i i
    obtain ⟨x, rfl, hx⟩ := h.one
    have hx : x = .bl i := hx
    subst hx
    exact .inr ⟨i, rfl, g H ρ _ (.refl r) rfl⟩
  · exact g.elim
/-- the greatest, the least -/
def maxI : List Int → Option Int
  | [] => none
  | i :: r => match maxI r with
    | some m => some (if i < m then m else i)
    | none => some i
def minI : List Int → Option Int
  | [] => none
  | i :: r => match minI r with
    | some m => some (if m < i then m else i)
    | none => some i
theorem maxI_ok : ∀ {is : List Int} {m : Int}, maxI is = some m → m ∈ is ∧ ∀ y ∈ is, y ≤ m
  | [], _, e => by cases e
  | i :: r, m, e => by
    unfold maxI at e
    split at e
    · rename_i k ek
      obtain ⟨h1, h2⟩ := maxI_ok ek
      cases e
      split
      · rename_i h
        refine ⟨List.mem_cons_of_mem _ h1, fun y hy => ?_⟩
        rcases List.mem_cons.mp hy with rfl | hy
        · omega
        · exact h2 y hy
      · rename_i h
        refine ⟨List.mem_cons_self, fun y hy => ?_⟩
        rcases List.mem_cons.mp hy with rfl | hy
        · omega
        · have := h2 y hy
          omega
    · rename_i ek
      cases e
      cases r with
      | nil => exact ⟨List.mem_cons_self, fun y hy => by have := List.mem_singleton.mp hy; omega⟩
      | cons j r =>
        unfold maxI at ek
        split at ek <;> cases ek
theorem minI_ok : ∀ {is : List Int} {m : Int}, minI is = some m → m ∈ is ∧ ∀ y ∈ is, m ≤ y
  | [], _, e => by cases e
  | i :: r, m, e => by
    unfold minI at e
    split at e
    · rename_i k ek
      obtain ⟨h1, h2⟩ := minI_ok ek
      cases e
      split
      · rename_i h
        refine ⟨List.mem_cons_of_mem _ h1, fun y hy => ?_⟩
        rcases List.mem_cons.mp hy with rfl | hy
        · omega
        · exact h2 y hy
      · rename_i h
        refine ⟨List.mem_cons_self, fun y hy => ?_⟩
        rcases List.mem_cons.mp hy with rfl | hy
        · omega
        · have := h2 y hy
          omega
    · rename_i ek
      cases e
      cases r with
      | nil => exact ⟨List.mem_cons_self, fun y hy => by have := List.mem_singleton.mp hy; omega⟩
      | cons j r =>
        unfold minI at ek
        split at ek <;> cases ek
def fMax (xs : List PV) (st : Sto) : Res PV := match xs with
  | [.int i, .int j] => .ok (.int (if j > i then j else i)) st
  | [.ref k] => match lstAt st k with
    | some ys => match intsOf ys with
      | some is => match maxI is with
        | some m => .ok (.int m) st
        | none => .bad
      | none => .bad
    | none => .bad
  | _ => .bad
def fMin (xs : List PV) (st : Sto) : Res PV := match xs with
  | [.int i, .int j] => .ok (.int (if j < i then j else i)) st
  | [.ref k] => match lstAt st k with
    | some ys => match intsOf ys with
      | some is => match minI is with
        | some m => .ok (.int m) st
        | none => .bad
      | none => .bad
    | none => .bad
  | _ => .bad
def rMaxA (K : PySem.W.Frag) : List V → Hp → VK → Prop := fun xs H Q => (∃ i j, xs = [.int i, .int j] ∧ Q (.int (if j > i then j else i)) H) ∨ rMax K xs H Q
def rMinA (K : PySem.W.Frag) : List V → Hp → VK → Prop := fun xs H Q => (∃ i j, xs = [.int i, .int j] ∧ Q (.int (if j < i then j else i)) H) ∨ rMin K xs H Q
theorem ok_max : CallOK J fMax (rMaxA J.W.K) := by
  intro E H ρ st ps xs Q r h g
  unfold fMax at g
  split at g
  · rename_i i j
    obtain ⟨x, y, rfl, hx, hy⟩ := h.two
    have hx : x = .int i := hx
    have hy : y = .int j := hy
    subst hx hy
    exact .inl ⟨i, j, rfl, g H ρ _ (.refl r) rfl⟩
  · split at g
    · rename_i k ys e1
      split at g
      · rename_i is e2
        split at g
        · rename_i m e3
          obtain ⟨x, rfl, _, rfl⟩ := h.one
          obtain ⟨vs, q, hv⟩ := r.seq e1
          rw [rvs_ints e2 hv] at q
          obtain ⟨m1, m2⟩ := maxI_ok e3
          refine .inr ⟨_, is, rfl, q, List.length_pos_of_mem m1, fun k h1 h2 => ?_⟩
          have ek : k = m := by
            have a1 := m2 k h1
            have a2 := h2 m m1
            omega
          rw [ek]
          exact g H ρ _ (.refl r) rfl
        · exact g.elim
      · exact g.elim
    · exact g.elim
  · exact g.elim
theorem ok_min : CallOK J fMin (rMinA J.W.K) := by
  intro E H ρ st ps xs Q r h g
  unfold fMin at g
  split at g
  · rename_i i j
    obtain ⟨x, y, rfl, hx, hy⟩ := h.two
    have hx : x = .int i := hx
    have hy : y = .int j := hy
    subst hx hy
    exact .inl ⟨i, j, rfl, g H ρ _ (.refl r) rfl⟩
  · split at g
    · rename_i k ys e1
      split at g
      · rename_i is e2
        split at g
        · rename_i m e3
          obtain ⟨x, rfl, _, rfl⟩ := h.one
          obtain ⟨vs, q, hv⟩ := r.seq e1
          rw [rvs_ints e2 hv] at q
          obtain ⟨m1, m2⟩ := minI_ok e3
          refine .inr ⟨_, is, rfl, q, List.length_pos_of_mem m1, fun k h1 h2 => ?_⟩
          have ek : k = m := by
            have a1 := m2 k h1
            have a2 := h2 m m1
            omega
          rw [ek]
          exact g H ρ _ (.refl r) rfl
        · exact g.elim
      · exact g.elim
    · exact g.elim
  · exact g.elim
/-! ### sum, all, any -/
def fSum (xs : List PV) (st : Sto) : Res PV := match xs with
  | [.ref k] => match lstAt st k with
    | some ys => match intsOf ys with
      | some is => .ok (.int is.sum) st
      | none => .bad
    | none => .bad
  | _ => .bad
theorem ok_sum : CallOK J fSum (rSum J.W.K) := by
  intro E H ρ st ps xs Q r h g
  unfold fSum at g
  split at g
  · split at g
    · rename_i k ys e1
      split at g
      · rename_i is e2
        obtain ⟨x, rfl, _, rfl⟩ := h.one
        obtain ⟨vs, q, hv⟩ := r.seq e1
        rw [rvs_ints e2 hv] at q
        exact ⟨_, is, rfl, q, g H ρ _ (.refl r) rfl⟩
      · exact g.elim
    · exact g.elim
  · exact g.elim
def fBls (f : List Bool → Bool) (xs : List PV) (st : Sto) : Res PV := match xs with
  | [.ref k] => match lstAt st k with
    | some ys => match blsOf ys with
      | some is => .ok (.bl (f is)) st
      | none => .bad
    | none => .bad
  | _ => .bad
def fAll := fBls fun bs => bs.all id
def fAny := fBls fun bs => bs.any id
theorem ok_bls {f : List Bool → Bool} : CallOK J (fBls f) (fun vs H Q => ∃ (a : Addr) (bs : List Bool), vs = [V.ref a] ∧ SqL J.W.K H a (bs.map V.bl) ∧ Q (.bl (f bs)) H) := by
  intro E H ρ st ps xs Q r h g
  unfold fBls at g
  split at g
  · split at g
    · rename_i k ys e1
      split at g
      · rename_i is e2
        obtain ⟨x, rfl, _, rfl⟩ := h.one
        obtain ⟨vs, q, hv⟩ := r.seq e1
        rw [rvs_bls e2 hv] at q
        exact ⟨_, is, rfl, q, g H ρ _ (.refl r) rfl⟩
      · exact g.elim
    · exact g.elim
  · exact g.elim
/-! ### list, tuple -/
def fTuple (xs : List PV) (st : Sto) : Res PV := match xs with
  | [p] => match seqOf st p with
    | some ys => .ok (.tup ys) st
    | none => .bad
  | _ => .bad
abbrev rTupA (K : PySem.W.Frag) : List V → Hp → VK → Prop := fun xs H Q => ∃ p ys, xs = [.ref p] ∧ ((SqL K H p ys ∧ ∀ l, H l = none → Q (.ref l) (upd H l (.tup ys))) ∨ (SqT K H p ys ∧ Q (.ref p) H))
theorem ok_tupleA : CallOK J fTuple (rTupA J.W.K) := by
  intro E H ρ st ps xs Q r h g
  unfold fTuple at g
  split at g
  · split at g
    · rename_i p ys e
      obtain ⟨x, rfl, hx⟩ := h.one
      obtain ⟨a, vs, rfl, q, hv⟩ := seq_ok r hx e
      refine ⟨a, vs, rfl, ?_⟩
      rcases q with q | q
      · exact .inl ⟨q, fun l hl => g _ ρ _ (.newT r hl) (rv_newT hl hv)⟩
      · exact .inr ⟨q, g H ρ _ (.refl r) ⟨a, vs, rfl, q, hv⟩⟩
    · exact g.elim
  · exact g.elim
def fList (xs : List PV) (st : Sto) : Res PV := match xs with
  | [.str s] => if szOk s.length = true then .ok (.ref st.length) (st ++ [.lst (s.map fun c => PV.str [c])]) else .bad
  | [p] => match seqOf st p with
    | some ys => .ok (.ref st.length) (st ++ [.lst ys])
    | none => .bad
  | _ => .bad
def rListA (K : PySem.W.Frag) : List V → Hp → VK → Prop := fun xs H Q => (∃ p ys, xs = [.ref p] ∧ (SqL K H p ys ∨ SqT K H p ys) ∧ ∀ l, H l = none → Q (.ref l) (upd H l (.lst ys))) ∨
  ∃ z : Str, xs = [.str z] ∧ z.length ≤ sizeLine ∧ ∀ l, H l = none → Q (.ref l) (upd H l (.lst (z.cps.toList.map fun c => V.str ⟨#[c]⟩)))
theorem vals_signs {x : Str} {acc : Array Value} (h : ItemsOf (SignAt x) acc x.cps.size) : Vals (x.cps.toList.map fun c => V.str ⟨#[c]⟩) acc.toList := by
  have key : ∀ (l : List Nat) (us : List Value), us.length = l.length → (∀ (j : Nat) (v : Value), us[j]? = some v → ∃ (c : Nat) (u : Tok), l[j]? = some c ∧ v = Value.str ⟨#[c]⟩ u) → Vals (l.map fun c => V.str ⟨#[c]⟩) us := by
    intro l
    induction l with
    | nil =>
      intro us hl _
      have : us = [] := List.length_eq_zero_iff.mp hl
      rw [this]
      exact .nil
    | cons c l ih =>
      intro us hl hv
      cases us with
      | nil => cases hl
      | cons u us =>
        obtain ⟨d, t, e1, e2⟩ := hv 0 u rfl
        cases e1
        refine .cons ⟨t, e2⟩ (ih us (Nat.succ.inj hl) fun j v e => ?_)
        obtain ⟨d, t, e1, e2⟩ := hv (j + 1) v (by simpa using e)
        exact ⟨d, t, by simpa using e1, e2⟩
  refine key _ _ (by rw [Array.length_toList, h.1, Array.length_toList]) fun j v e => ?_
  obtain ⟨c, u, e1, e2⟩ := h.2 j v (by simpa using e)
  exact ⟨c, u, by simpa using e1, e2⟩
theorem call_listA {X : Cx} (hc : X.calm = true) : CallR X (.type "list") (rListA X.K) := by
  intro pins s σ H xs us Q I r h
  rcases h with h | h
  · exact call_list_of pins s σ H xs us Q I r h
  · obtain ⟨z, rfl, hz, q⟩ := h
    obtain ⟨u, rfl, t, rfl⟩ := vals1 r
    refine call_list_str (I.ok.hd hc) z t (fun h' tk acc c' hk hS hi => ?_) hz
    have rv := vals_signs hi
    have hl : (z.cps.toList.map fun c => V.str ⟨#[c]⟩).length ≤ sizeLine := by
      rw [List.length_map, Array.length_toList]
      exact hz
    refine ⟨.ref s.heap.objs.size, _, I.laid (o := .lst (z.cps.toList.map fun c => V.str ⟨#[c]⟩)) (h' := h') (t' := tk) hk (Nat.le_refl _) ⟨hl, acc.toList, c', rv, ?_⟩, rfl, q _ (I.hok.fresh (Nat.le_refl _))⟩
    rw [Array.toArray_toList]
    exact hS
theorem ok_listA : CallOK J fList (rListA J.W.K) := by
  intro E H ρ st ps xs Q r h g
  unfold fList at g
  split at g
  · rename_i s
    split at g
    · rename_i hz
      obtain ⟨x, rfl, hx⟩ := h.one
      have hx : x = .str (toS s) := hx
      subst hx
      refine .inr ⟨_, rfl, by rw [str_len]; exact szOk_le hz, fun l hl => g _ _ _ (.newL r hl ?_) ⟨by simp, by rw [put_same]⟩⟩
      have e : (toS s).cps.toList = s := by simp
      rw [e]
      exact rvs_signs s
    · exact g.elim
  · split at g
    · rename_i p _ ys e
      obtain ⟨x, rfl, hx⟩ := h.one
      obtain ⟨a, vs, rfl, q, hv⟩ := seq_ok r hx e
      exact .inl ⟨a, vs, rfl, q, fun l hl => g _ _ _ (.newL r hl hv) ⟨by simp, by rw [put_same]⟩⟩
    · exact g.elim
  · exact g.elim
end
end Mi
end
section
set_option maxRecDepth 100000
set_option maxHeartbeats 4000000
namespace Mi
open PySem PySem.Spec PyProof.Rows L2
/-! ### isinstance -/
theorem pe_bty {X : Cx} {x : Str} {T : String} {pos : Pos} (hg : Gl X x) (hm : X.mg x = none) (hv : bootBuiltins x = some (.type T)) (hn : x ≠ "__name__" := by decide) (hd : (x == ("__debug__" : Str)) = false := by decide) : PE X (.Name x pos) (tC (.ty T)) :=
  ⟨fun _ _ _ H _ I h => ld_blt I hg hm hv ⟨.ty T, H, I, rfl, h⟩ hn hd⟩
/-- types by number: what a value is; what is asked -/
inductive Ty where
  | int | bool | str | tuple | list | dict | non
  deriving DecidableEq
def Ty.nm : Ty → String
  | .int => "int"
  | .bool => "bool"
  | .str => "str"
  | .tuple => "tuple"
  | .list => "list"
  | .dict => "dict"
  | .non => "NoneType"
def isiB : Ty → Ty → Bool
  | .int, .int => true
  | .bool, .int => true
  | .bool, .bool => true
  | .str, .str => true
  | .tuple, .tuple => true
  | .list, .list => true
  | .dict, .dict => true
  | _, _ => false
theorem isi_kit : ∀ a b : Ty, b ≠ .non → kitB a.nm b.nm = some (isiB a b) := by
  intro a b h
  cases a <;> cases b <;> first | exact absurd rfl h | decide +kernel
def tyOf (st : Sto) : PV → Option Ty
  | .non => some .non
  | .bl _ => some .bool
  | .int _ => some .int
  | .str _ => some .str
  | .tup _ => some .tuple
  | .ref k => match st[k]? with
    | some (.lst _) => some .list
    | some (.fz _) => some .list
    | some (.dct _) => some .dict
    | none => none
  | _ => none
def fIsi (T : Ty) (p : PV) (st : Sto) : Res PV := match tyOf st p with
  | some t => .ok (.bl (isiB t T)) st
  | none => .bad
section
variable {W : Wd} {H : Hp} {ρ : Nat → Addr} {st : Sto}
theorem ty_ok {p : PV} {x : V} {t : Ty} (r : RSt W H ρ st) (h : RV W H ρ st.length p x) (e : tyOf st p = some t) : TyX W.K H x (.type t.nm) := by
  cases p <;> simp only [tyOf] at e <;> try (cases e; done)
  · cases e
    have h : x = .non := h
    subst h
    exact .base .non
  · cases e
    rename_i b
    have h : x = .bl b := h
    subst h
    exact .base (.bl b)
  · cases e
    rename_i b
    have h : x = .int b := h
    subst h
    exact .base (.int b)
  · cases e
    rename_i b
    have h : x = .str (toS b) := h
    subst h
    exact .base (.str _)
  · cases e
    obtain ⟨a, vs, rfl, (q | ⟨o, q⟩) | q, _⟩ := h
    · exact .base (.tup q)
    · exact .fTuple q
    · obtain ⟨o, its, n, q1, q2, _⟩ := q
      exact .kTuple q1 q2
  · rename_i k
    obtain ⟨_, rfl⟩ := h
    split at e
    · rename_i xs e1
      cases e
      obtain ⟨vs, q, _⟩ := r.obj k _ e1
      exact .base (.lst q)
    · rename_i xs e1
      cases e
      obtain ⟨vs, q, _⟩ := r.obj k _ e1
      rcases q with ⟨o, q⟩ | ⟨o, its, n, q1, q2, _⟩
      · exact .base (.frz q)
      · exact .kList q1 q2
    · rename_i xs e1
      cases e
      obtain ⟨vs, q, _⟩ := r.obj k _ e1
      exact .base (.dK q)
    · cases e
end
section
variable {X : Cx} {J : Jx} {e : Expr} {de : DE}
theorem xe_isi {T : Str} {ty : Ty} {p p2 pos : Pos} (J2 : XJ X J) (hg : Gl X "isinstance") (hm : X.mg "isinstance" = none) (hT : Gl X T) (hmT : X.mg T = none) (hv : bootBuiltins T = some (.type ty.nm)) (hty : ty ≠ .non) (he : PE X e (rdE J de)) (hnT : T ≠ "__name__" := by decide) (hdT : (T == ("__debug__" : Str)) = false := by decide)
    (hs : starEach [e, .Name T p2] X.env = (false, eval e X.env) :: starEach [.Name T p2] X.env := by rfl) : PE X (.Call (.Name "isinstance" p) [e, .Name T p2] [] pos) (rdE J (dUn (fIsi ty) de)) :=
  PE.imp (pe_callB call_isi hg hm (by decide +kernel) (pa_cons he (pa_cons (pe_bty hT hmT hv hnT hdT) pa_nil (by rfl)) hs) (by decide) (by decide) hs (by rfl)) fun σ H Q h =>
    rd_bind J2.st h fun ρ th env st v x H1 S rv g => by
      unfold fIsi at g
      split at g
      · rename_i t et
        exact ⟨x, .ty ty.nm, .type t.nm, .type ty.nm, isiB t ty, rfl, .ty _, by rw [← J2.K]; exact ty_ok S.rs rv et, kit_ty (isi_kit t ty hty), g H1 ρ _ (.refl S.rs) rfl⟩
      · exact g.elim
/-! ### repr -/
def fRepr (xs : List PV) (st : Sto) : Res PV := match xs with
  | [p] => match dat 60 st p with
    | some d => if (d.showable && !d.hasDict && Nat.ble d.shown.length 16777216) = true then .ok (.str (ofS d.shown)) st else .bad
    | none => .bad
  | _ => .bad
def rReprA (K : PySem.W.Frag) : List V → Hp → VK → Prop := fun xs H Q => ∃ x d, xs = [x] ∧ Dp K H x d ∧ d.showable = true ∧ d.hasDict = false ∧ SeqAt.shaped d = true ∧ d.shown.length ≤ sizeLine ∧ Q (.str d.shown) H
theorem call_reprA (hgd : X.A.guards = some []) (hu : X.A.units + 66 < cLine) : CallR X (.builtin "repr") (rReprA X.K) := by
  intro pins s σ H xs us Q I r h
  obtain ⟨x, d, rfl, hd, h1, h2, h3, h4, q⟩ := h
  obtain ⟨u, rfl, ru⟩ := vals1 r
  have hdp := SeqAt.depth_of_shaped h3
  obtain ⟨as, rd⟩ := Dp.reads I d x u hd ru
  cases hd with
  | non =>
    have ru : u = Value.none := ru
    subst ru
    exact PySem.P.repr_of_none ⟨.str _, H, I.tok _, ⟨_, rfl⟩, q⟩
  | bl b =>
    have ru : u = Value.bool b := ru
    subst ru
    exact PySem.P.repr_of_bool ⟨.str _, H, I.tok _, ⟨_, rfl⟩, q⟩
  | int i =>
    obtain ⟨t, rfl⟩ := ru
    exact PySem.P.repr_of_int (of_decide_eq_true h1) ⟨.str _, H, I.tok _, ⟨_, rfl⟩, q⟩
  | str z =>
    obtain ⟨t, rfl⟩ := ru
    exact PySem.P.repr_of_str ⟨.str _, H, I.tok _, ⟨_, rfl⟩, q⟩ h4
  | lst _ _ =>
    have ru : u = _ := ru
    subst ru
    exact repr_of_reads' rd h1 (PyData.noDict_hsm h2) hgd (by omega) (fun _ _ e => e) (fun h' u tk hk => ⟨.str _, H, I.kept (t' := tk) hk, ⟨_, rfl⟩, q⟩) h4
  | tup _ _ =>
    have ru : u = _ := ru
    subst ru
    exact repr_of_reads' rd h1 (PyData.noDict_hsm h2) hgd (by omega) (fun _ _ e => e) (fun h' u tk hk => ⟨.str _, H, I.kept (t' := tk) hk, ⟨_, rfl⟩, q⟩) h4
theorem ok_repr : CallOK J fRepr (rReprA J.W.K) := by
  intro E H ρ st ps xs Q r h g
  unfold fRepr at g
  split at g
  · split at g
    · rename_i p d e
      split at g
      · rename_i hc
        rw [Bool.and_eq_true, Bool.and_eq_true] at hc
        obtain ⟨⟨c1, c2⟩, c3⟩ := hc
        obtain ⟨x, rfl, hx⟩ := h.one
        refine ⟨x, d, rfl, dat_dp r _ _ _ _ e hx, c1, by simpa using c2, shaped_dat (by decide) e, by rw [sizeLine_eq]; exact Nat.le_of_ble_eq_true c3, g H ρ _ (.refl r) rfl⟩
      · exact g.elim
    · exact g.elim
  · exact g.elim
/-! ### in -/
def datsOf (st : Sto) (xs : List PV) : Option (List PyData) := mapO (dat 59 st) xs
def pInB (x y : PV) (st : Sto) : Option Bool := match x, y with
  | .str a, .str b => match a with
    | [c] => some (decide (c ∈ b))
    | _ => some (!(Builtin.Str.occurrences (toS b) (toS a) 0 b.length 1).isEmpty)
  | x, y => match dat 60 st x with
    | some d => match seqOf st y with
      | some ys => match datsOf st ys with
        | some ds => some (ds.any fun z => PyData.eqv z d)
        | none => none
      | none => none
    | none => none
def pIn (x y : PV) (st : Sto) : Res PV := match pInB x y st with
  | some b => .ok (.bl b) st
  | none => .bad
def pNotIn (x y : PV) (st : Sto) : Res PV := match pInB x y st with
  | some b => .ok (.bl (!b)) st
  | none => .bad
def rInT (K : PySem.W.Frag) (f : Bool → Bool) : R2 := fun x y H Q => ∃ d ds, Dp K H x d ∧ (Dp K H y (.list ds) ∨ Dp K H y (.tuple ds)) ∧ SeqAt.shaped d = true ∧ SeqAt.shaped (.list ds) = true ∧ Q (.bl (f (ds.any fun z => PyData.eqv z d))) H
def rInA (K : PySem.W.Frag) (f : Bool → Bool) : R2 := fun x y H Q => (∃ (c : Nat) (z : Str), x = .str ⟨#[c]⟩ ∧ y = .str z ∧ Q (.bl (f (decide (c ∈ z.cps.toList)))) H) ∨ (∃ i j, x = .str i ∧ y = .str j ∧ Q (.bl (f (!(Builtin.Str.occurrences j i 0 j.length 1).isEmpty))) H) ∨ rInT K f x y H Q
theorem op_inT (hu : X.A.units + 65 < cLine) : OpR X (compareOp .In) (rInT X.K fun b => b) := by
  intro pins s σ H x y v u Q I rx ry h
  obtain ⟨d, ds, hd, he, sd, se, q⟩ := h
  obtain ⟨as, r1⟩ := Dp.reads I d x v hd rx
  rcases he with he | he
  · obtain ⟨bs, r2⟩ := Dp.reads I _ y u he ry
    exact SeqAt.in_list_reads r2 r1 (SeqAt.canLay_of_shaped se) (SeqAt.canLay_of_shaped sd) (room_in_shaped sd hu) ⟨.bl _, H, I, rfl, q⟩
  · obtain ⟨bs, r2⟩ := Dp.reads I _ y u he ry
    exact SeqAt.in_tuple_reads r2 r1 (SeqAt.canLay_of_shaped se) (SeqAt.canLay_of_shaped sd) (room_in_shaped sd hu) ⟨.bl _, H, I, rfl, q⟩
theorem op_notInT (hu : X.A.units + 65 < cLine) : OpR X (compareOp .NotIn) (rInT X.K fun b => !b) := by
  intro pins s σ H x y v u Q I rx ry h
  obtain ⟨d, ds, hd, he, sd, se, q⟩ := h
  obtain ⟨as, r1⟩ := Dp.reads I d x v hd rx
  rcases he with he | he
  · obtain ⟨bs, r2⟩ := Dp.reads I _ y u he ry
    exact SeqAt.notIn_list_reads r2 r1 (SeqAt.canLay_of_shaped se) (SeqAt.canLay_of_shaped sd) (room_in_shaped sd hu) ⟨.bl _, H, I, rfl, q⟩
  · obtain ⟨bs, r2⟩ := Dp.reads I _ y u he ry
    exact SeqAt.notIn_tuple_reads r2 r1 (SeqAt.canLay_of_shaped se) (SeqAt.canLay_of_shaped sd) (room_in_shaped sd hu) ⟨.bl _, H, I, rfl, q⟩
theorem op_inA (hu : X.A.units + 65 < cLine) : OpR X (compareOp .In) (rInA X.K fun b => b) := OpR.or op_in_sign (OpR.or op_in_str (op_inT hu))
theorem op_notInA (hu : X.A.units + 65 < cLine) : OpR X (compareOp .NotIn) (rInA X.K fun b => !b) := OpR.or op_notIn_sign (OpR.or op_notIn_str (op_notInT hu))
theorem inB_ok {f : Bool → Bool} {W : Wd} {H : Hp} {ρ : Nat → Addr} {st : Sto} {p q : PV} {x y : V} {b : Bool} {Q : VK} (r : RSt W H ρ st) (hx : RV W H ρ st.length p x) (hy : RV W H ρ st.length q y) (h : pInB p q st = some b) (hQ : Q (.bl (f b)) H) : rInA W.K f x y H Q := by
  unfold pInB at h
  split at h
  · rename_i a b'
    have hx : x = .str (toS a) := hx
    have hy : y = .str (toS b') := hy
    subst hx hy
    split at h
    · rename_i c
      cases h
      refine .inl ⟨c, toS b', rfl, rfl, ?_⟩
      have e : (toS b').cps.toList = b' := by simp
      rw [e]
      exact hQ
    · cases h
      refine .inr (.inl ⟨_, _, rfl, rfl, ?_⟩)
      rw [str_len]
      exact hQ
  · split at h
    · rename_i d ed
      split at h
      · rename_i ys ey
        split at h
        · rename_i ds eds
          cases h
          have hm := mapO_all (P := fun d => d.canLay0 = true ∧ d.depth ≤ 59) (dat_shape 59) eds
          have hsh : SeqAt.shaped (.list ds) = true := by
            unfold SeqAt.shaped
            rw [Bool.and_eq_true]
            refine ⟨canLayAll_of fun d q => (hm d q).1, decide_eq_true ?_⟩
            unfold PyData.depth
            have := depthAll_of fun d q => (hm d q).2
            omega
          refine .inr (.inr ⟨d, ds, dat_dp r _ _ _ _ ed hx, ?_, shaped_dat (by decide) ed, hsh, hQ⟩)
          obtain ⟨a, vs, rfl, q, hv⟩ := seq_ok r hy ey
          have hdp := mapO_dp r (dat_dp r 59) eds hv
          rcases q with q | q
          · exact .inl (.lst q hdp)
          · exact .inr (.tup q hdp)
        · cases h
      · cases h
    · cases h
theorem ok_in : OpOK J pIn (rInA J.W.K fun b => b) := by
  intro E H ρ st p q x y Q r hx hy g
  unfold pIn at g
  cases e : pInB p q st with
  | none =>
    rw [e] at g
    exact g.elim
  | some b =>
    rw [e] at g
    exact inB_ok r hx hy e (g H ρ (.bl b) (.refl r) rfl)
theorem ok_notIn : OpOK J pNotIn (rInA J.W.K fun b => !b) := by
  intro E H ρ st p q x y Q r hx hy g
  unfold pNotIn at g
  cases e : pInB p q st with
  | none =>
    rw [e] at g
    exact g.elim
  | some b =>
    rw [e] at g
    exact inB_ok r hx hy e (g H ρ (.bl (!b)) (.refl r) rfl)
/-! ### slices -/
def cutP {α : Type} (xs : List α) (lo hi : Option Int) : List α := (xs.drop (HT.sIx xs.length 0 lo)).take (HT.sIx xs.length xs.length hi - HT.sIx xs.length 0 lo)
theorem rvs_cut {W : Wd} {H : Hp} {ρ : Nat → Addr} {n : Nat} {ps : List PV} {vs : List V} (h : RVs W H ρ n ps vs) (lo hi : Option Int) : RVs W H ρ n (cutP ps lo hi) (cutV vs lo hi) := by
  unfold cutP cutV
  rw [h.length]
  exact (h.drop _).take _
def fSl (p : PV) (lo hi : Option Int) (st : Sto) : Res PV := match p with
  | .str s => if szOk s.length = true then .ok (.str (ofS (Txt.slice (toS s) lo hi))) st else .bad
  | .tup xs => .ok (.tup (cutP xs lo hi)) st
  | .ref k => match lstAt st k with
    | some xs => .ok (.ref st.length) (st ++ [.lst (cutP xs lo hi)])
    | none => .bad
  | _ => .bad
/-- a part of a slice: left out, or an expression -/
def dNoP : Dn (Option Int) := fun _ _ st => .ok none st
def dPt (d : DE) : Dn (Option Int) := fun th env st => (d th env st).bind fun v st => match v with
  | .int i => .ok (some i) st
  | _ => .bad
abbrev rdO (J : Jx) (d : Dn (Option Int)) : TO := rdR J (fun _ _ _ p x => x = p) d
theorem PO.imp {e : Option Expr} {t t' : TO} (h : PO X e t) (k : ∀ σ H Q, t' σ H Q → t σ H Q) : PO X e t' := ⟨fun pins s σ H Q I q => h.run pins s σ H Q I (k σ H Q q)⟩
theorem xo_none : PO X none (rdO J dNoP) := PO.imp po_none fun σ H Q h => by
  obtain ⟨ρ, th, env, st, S, g⟩ := h
  exact g H ρ none (.refl S.rs) rfl
theorem xo_some (J2 : XJ X J) (he : PE X e (rdE J de)) : PO X (some e) (rdO J (dPt de)) := PO.imp (po_some he) fun σ H Q h => rd_bind J2.st h fun ρ th env st v x H1 S rv g => by
  split at g
  · rename_i i
    exact ⟨i, rv, g H1 ρ _ (.refl S.rs) rfl⟩
  · exact g.elim
def dSl (a : DE) (l h : Dn (Option Int)) : DE := fun th env st => (a th env st).bind fun x st => (l th env st).bind fun lo st => (h th env st).bind fun hi st => fSl x lo hi st
def rSlAll (K : PySem.W.Frag) : V → Option Int → Option Int → Hp → VK → Prop := fun x lo hi H Q => C8.rSlX x lo hi H Q ∨ rSlA K x lo hi H Q ∨ rSlL K x lo hi H Q
theorem ok_sl {W : Wd} {E : XK} {H : Hp} {ρ : Nat → Addr} {st : Sto} {p : PV} {x : V} {lo hi : Option Int} {Q : VK} (r : RSt W H ρ st) (hx : RV W H ρ st.length p x) (g : gE W E (fSl p lo hi st) H ρ st.length Q) : rSlAll W.K x lo hi H Q := by
  unfold fSl at g
  split at g
  · split at g
    · rename_i s hz
      exact .inl ⟨toS s, hx, by rw [str_len]; exact szOk_le hz, g H ρ _ (.refl r) rfl⟩
    · exact g.elim
  · rename_i xs
    obtain ⟨a, vs, rfl, q, hv⟩ := hx
    refine .inr (.inl ⟨a, vs, rfl, q, fun hw => g H ρ _ (.refl r) ⟨a, vs, rfl, q, ?_⟩, fun _ l hl => g _ ρ _ (.newT r hl) (rv_newT hl (rvs_cut hv lo hi))⟩)
    unfold cutP
    rw [hv.length, hw.1, hw.2, List.drop_zero, Nat.sub_zero, ← hv.length, List.take_length]
    exact hv
  · split at g
    · rename_i k xs e
      obtain ⟨_, rfl⟩ := hx
      obtain ⟨vs, q, hv⟩ := r.seq e
      exact .inr (.inr ⟨_, vs, rfl, q, fun l hl => g _ _ _ (.newL r hl (rvs_cut hv lo hi)) ⟨by simp, by rw [put_same]⟩⟩)
    · exact g.elim
  · exact g.elim
theorem xe_sl {lo hi : Option Expr} {dlo dhi : Dn (Option Int)} {pos p2 : Pos} (J2 : XJ X J) (he : PE X e (rdE J de)) (hl : PO X lo (rdO J dlo)) (hh : PO X hi (rdO J dhi)) : PE X (.Subscript e (.Slice lo hi none p2) pos) (rdE J (dSl de dlo dhi)) :=
  PE.imp (pe_slice (r := rSlAll X.K) (SlR.or C8.sl_txt (SlR.or sl_tupA sl_list)) he hl hh) fun σ H Q h => rd_bind J2.st h fun ρ th env st v x H1 S rv g =>
    rd_of S (gR.bind g fun lo st2 H2 ρ2 l _ s2 r2 g2 => rd_of (S.step J2.st s2) (gR.bind g2 fun hi st3 H3 ρ3 u _ s3 r3 g3 => by
      have r2 : l = lo := r2
      have r3 : u = hi := r3
      subst r2 r3
      rw [← J2.K]
      exact ok_sl s3.rs (s3.rv (s2.rv rv)) g3))
end
end Mi
end
section
set_option maxRecDepth 100000
set_option maxHeartbeats 4000000
namespace Mi
open PySem PySem.Spec PyProof.Rows L2
/-! ### sorting -/
section
variable {α : Type}
def insS (le : α → α → Bool) (x : α) : List α → List α
  | [] => [x]
  | y :: r => if le x y = true then x :: y :: r else y :: insS le x r
def sortS (le : α → α → Bool) : List α → List α
  | [] => []
  | x :: r => insS le x (sortS le r)
theorem insS_perm (le : α → α → Bool) (x : α) : ∀ l, (insS le x l).Perm (x :: l)
  | [] => .refl _
  | y :: r => by
    unfold insS
    split
    · exact .refl _
    · exact ((insS_perm le x r).cons y).trans (.swap x y r)
theorem sortS_perm (le : α → α → Bool) : ∀ l, (sortS le l).Perm l
  | [] => .refl _
  | x :: r => (insS_perm le x _).trans ((sortS_perm le r).cons x)
theorem insS_srt {le : α → α → Bool} (tot : ∀ a b, le a b = true ∨ le b a = true) (tr : ∀ a b c, le a b = true → le b c = true → le a c = true) (x : α) : ∀ l, l.Pairwise (fun a b => le a b = true) → (insS le x l).Pairwise (fun a b => le a b = true)
  | [], _ => List.pairwise_singleton _ _
  | y :: r, h => by
    obtain ⟨h1, h2⟩ := List.pairwise_cons.mp h
    unfold insS
    split
    · rename_i e
      refine List.pairwise_cons.mpr ⟨fun z hz => ?_, h⟩
      rcases List.mem_cons.mp hz with rfl | hz
      · exact e
      · exact tr _ _ _ e (h1 z hz)
    · rename_i e
      refine List.pairwise_cons.mpr ⟨fun z hz => ?_, insS_srt tot tr x r h2⟩
      rcases List.mem_cons.mp ((insS_perm le x r).mem_iff.mp hz) with rfl | hz
      · exact (tot z y).resolve_left e
      · exact h1 z hz
theorem sortS_srt {le : α → α → Bool} (tot : ∀ a b, le a b = true ∨ le b a = true) (tr : ∀ a b c, le a b = true → le b c = true → le a c = true) : ∀ l, (sortS le l).Pairwise (fun a b => le a b = true)
  | [] => .nil
  | x :: r => insS_srt tot tr x _ (sortS_srt tot tr r)
theorem sortS_eq {le : α → α → Bool} (tot : ∀ a b, le a b = true ∨ le b a = true) (tr : ∀ a b c, le a b = true → le b c = true → le a c = true) (anti : ∀ a b, le a b = true → le b a = true → a = b) {l m : List α} (p : m.Perm l) (h : m.Pairwise fun a b => le a b = true) : m = sortS le l :=
  List.Perm.eq_of_pairwise (le := fun a b => le a b = true) (fun a b _ _ => anti a b) h (sortS_srt tot tr l) (p.trans (sortS_perm le l).symm)
end
def leI (a b : Int) : Bool := decide (a ≤ b)
def leS (a b : List Nat) : Bool := !ltCps b a
def leP (p q : Int × Int) : Bool := !SrtO.lexB q p
theorem ltCps_irrefl : ∀ a, ltCps a a = false
  | [] => rfl
  | a :: r => by simp [ltCps, ltCps_irrefl r]
theorem ltCps_asymm : ∀ a b, ltCps a b = true → ltCps b a = false
  | [], [], h => by cases h
  | [], _ :: _, _ => rfl
  | _ :: _, [], h => by cases h
  | a :: r, b :: t, h => by
    simp only [ltCps, Bool.or_eq_true, Bool.and_eq_true, decide_eq_true_eq, beq_iff_eq] at h
    simp only [ltCps, Bool.or_eq_false_iff, Bool.and_eq_false_iff, decide_eq_false_iff_not, beq_eq_false_iff_ne]
    rcases h with h | ⟨h, h2⟩
    · exact ⟨by omega, .inl (by omega)⟩
    · exact ⟨by omega, .inr (ltCps_asymm r t h2)⟩
theorem ltCps_tri : ∀ a b, ltCps a b = false → ltCps b a = false → a = b
  | [], [], _, _ => rfl
  | [], _ :: _, h, _ => by cases h
  | _ :: _, [], _, h => by cases h
  | a :: r, b :: t, h, k => by
    simp only [ltCps, Bool.or_eq_false_iff, Bool.and_eq_false_iff, decide_eq_false_iff_not, beq_eq_false_iff_ne] at h k
    have e : a = b := by omega
    subst e
    have h2 := h.2.resolve_left (fun z => z rfl)
    have k2 := k.2.resolve_left (fun z => z rfl)
    rw [ltCps_tri r t h2 k2]
theorem ltCps_trans : ∀ a b c, ltCps a b = true → ltCps b c = true → ltCps a c = true
  | [], [], _, h, _ => by cases h
  | [], _ :: _, [], _, k => by cases k
  | [], _ :: _, _ :: _, _, _ => rfl
  | _ :: _, [], _, h, _ => by cases h
  | _ :: _, _ :: _, [], _, k => by cases k
  | a :: r, b :: t, c :: u, h, k => by
    simp only [ltCps, Bool.or_eq_true, Bool.and_eq_true, decide_eq_true_eq, beq_iff_eq] at h k ⊢
    rcases h with h | ⟨h, h2⟩ <;> rcases k with k | ⟨k, k2⟩
    · exact .inl (by omega)
    · exact .inl (by omega)
    · exact .inl (by omega)
    · exact .inr ⟨by omega, ltCps_trans r t u h2 k2⟩
theorem leS_tot (a b : List Nat) : leS a b = true ∨ leS b a = true := by
  unfold leS
  cases h : ltCps b a with
  | false => exact .inl rfl
  | true => exact .inr (by rw [ltCps_asymm _ _ h] <;> rfl)
theorem leS_anti (a b : List Nat) (h : leS a b = true) (k : leS b a = true) : a = b := by
  unfold leS at h k
  exact ltCps_tri a b (by simpa using k) (by simpa using h)
theorem leS_trans (a b c : List Nat) (h : leS a b = true) (k : leS b c = true) : leS a c = true := by
  unfold leS at *
  simp only [Bool.not_eq_true'] at *
  cases e : ltCps c a with
  | false => rfl
  | true =>
    exfalso
    by_cases hab : a = b
    · subst hab
      rw [e] at k
      cases k
    · have h1 : ltCps a b = true := by
        cases q : ltCps a b with
        | true => rfl
        | false => exact absurd (ltCps_tri a b q h) hab
      have := ltCps_trans c a b e h1
      rw [k] at this
      cases this
theorem leP_iff {p q : Int × Int} : leP p q = true ↔ ¬ (q.1 < p.1 ∨ (q.1 = p.1 ∧ q.2 < p.2)) := by
  unfold leP
  rw [← SrtO.lexB_iff]
  cases SrtO.lexB q p <;> simp
theorem leP_tot (a b : Int × Int) : leP a b = true ∨ leP b a = true := by
  rw [leP_iff, leP_iff]
  omega
theorem leP_anti (a b : Int × Int) (h : leP a b = true) (k : leP b a = true) : a = b := by
  rw [leP_iff] at h k
  exact Prod.ext (by omega) (by omega)
theorem leP_trans (a b c : Int × Int) (h : leP a b = true) (k : leP b c = true) : leP a c = true := by
  rw [leP_iff] at h k ⊢
  omega
/-- pairs of ints at V's -/
def pairsOf : List PV → Option (List (Int × Int))
  | [] => some []
  | .tup [.int i, .int j] :: r => match pairsOf r with
    | some is => some ((i, j) :: is)
    | none => none
  | _ :: _ => none
def PrAt (K : PySem.W.Frag) (H : Hp) (x : V) (p : Int × Int) : Prop := ∃ t, x = .ref t ∧ SqT K H t [.int p.1, .int p.2]
theorem rvs_pairs {W : Wd} {H : Hp} {ρ : Nat → Addr} {n : Nat} : ∀ {ps : List PV} {is : List (Int × Int)} {vs : List V}, pairsOf ps = some is → RVs W H ρ n ps vs → Paired (PrAt W.K H) vs is
  | [], is, vs, e, h => by
    cases e
    have h : vs = [] := h
    subst h
    exact .nil
  | p :: ps, is, vs, e, ⟨v, r, e2, h1, h2⟩ => by
    unfold pairsOf at e
    split at e
    · rename_i e3
      cases e3
    · rename_i i j ps' e3
      cases e3
      split at e
      · rename_i js ejs
        cases e
        subst e2
        obtain ⟨a, us, rfl, q, hu⟩ := h1
        obtain ⟨y, z, rfl, hy, hz⟩ := hu.two
        have hy : y = .int i := hy
        have hz : z = .int j := hz
        subst hy hz
        exact .cons ⟨a, rfl, q⟩ (rvs_pairs ejs h2)
      · cases e
    · cases e
theorem rvs_of_pairs {W : Wd} {H : Hp} {ρ : Nat → Addr} {n : Nat} : ∀ {is : List (Int × Int)} {vs : List V}, Paired (PrAt W.K H) vs is → RVs W H ρ n (is.map fun p => .tup [.int p.1, .int p.2]) vs
  | _, _, .nil => rfl
  | _, _, .cons ⟨t, e, q⟩ h => ⟨_, _, rfl, ⟨t, _, e, q, ⟨_, _, rfl, rfl, _, _, rfl, rfl, rfl⟩⟩, rvs_of_pairs h⟩
/-- sorted(list of pairs) -/
def rSortedPT (K : PySem.W.Frag) : List V → Hp → VK → Prop := fun vs H Q => ∃ (a : Addr) (xs : List V) (is : List (Int × Int)), vs = [V.ref a] ∧ SqL K H a xs ∧ Paired (PrAt K H) xs is ∧
  ∀ ys p, Paired (PrAt K H) ys (sortS leP is) → H p = none → Q (.ref p) (upd H p (.lst ys))
theorem paired_mem {α β : Type} {R : α → β → Prop} : ∀ {xs : List α} {ys : List β}, Paired R xs ys → ∀ x ∈ xs, ∃ y, R x y
  | _, _, .nil, x, h => by cases h
  | _, _, .cons r t, x, h => by
    rcases List.mem_cons.mp h with rfl | h
    · exact ⟨_, r⟩
    · exact paired_mem t x h
section
variable {X : Cx} {J : Jx}
open Classical in
/-- the ints of the pair at a V, if there is one -/
noncomputable def prK (K : PySem.W.Frag) (H : Hp) (x : V) : Int × Int := if h : ∃ p, PrAt K H x p then h.choose else (0, 0)
theorem prK_at {K : PySem.W.Frag} {H : Hp} {x : V} {p : Int × Int} (h : PrAt K H x p) : PrAt K H x (prK K H x) := by
  unfold prK
  rw [dif_pos ⟨p, h⟩]
  exact Exists.choose_spec (⟨p, h⟩ : ∃ p, PrAt K H x p)
theorem prAt_inj {pins : List (Addr × Obj)} {σ : L2.St} {H : Hp} {s : Shared} (I : Inv X pins σ H s) {x : V} {p q : Int × Int} (h : PrAt X.K H x p) (k : PrAt X.K H x q) : p = q := by
  obtain ⟨t, rfl, h⟩ := h
  obtain ⟨t', e, k⟩ := k
  cases e
  have := I.tuple_inj h k
  injection this with e1 e2
  injection e1 with e1
  injection e2 with e2
  injection e2 with e2
  exact Prod.ext e1 e2
theorem cr_sortedPT : CallR X (.builtin "sorted") (rSortedPT X.K) := by
  intro pins s σ H vs us Q I r h
  obtain ⟨a, xs, is, rfl, hs, hx, q⟩ := h
  obtain ⟨its, rv, hl, hz⟩ := I.list hs
  obtain ⟨u, rfl, ru⟩ := vals1 r
  have ru : u = Value.ref a := ru
  subst ru
  obtain ⟨e1, e2⟩ := refs_back rv fun x m => by
    obtain ⟨p, t, e, _⟩ := paired_mem hx x m
    exact ⟨t, e⟩
  have ek : ∀ {ys : List V} {js : List (Int × Int)}, Paired (PrAt X.K H) ys js → js = ys.map (prK X.K H) := fun {ys js} h => by
    induction h with
    | nil => rfl
    | cons r t ih => rw [List.map_cons, ← ih, prAt_inj I r (prK_at r)]
  refine SrtO.sorted_pairsO (k := fun u => prK X.K H (backV u)) hl.isList (by rw [← rv.length]; exact hz) (fun v hv => ?_) fun h' d out h1 h2 kp hd hn => ?_
  · obtain ⟨t, rfl⟩ := e2 v hv
    have hm : V.ref t ∈ xs := by
      rw [e1]
      exact List.mem_map.mpr ⟨_, hv, rfl⟩
    obtain ⟨p, hp⟩ := paired_mem hx _ hm
    obtain ⟨t', e, q⟩ := prK_at hp
    cases e
    obtain ⟨its2, r2, ⟨o, ho, hc, n, hdd⟩, _⟩ := I.tuple q
    obtain ⟨u1, u2, rfl, ⟨t1, rfl⟩, t2, rfl⟩ := vals2 r2
    exact ⟨t, o, t1, t2, n, rfl, ho, hc, hdd⟩
  · have h3 : ∀ u ∈ out, ∃ a, u = Value.ref a := fun u hu => e2 u (h2.perm.mem_iff.mp hu)
    obtain ⟨n, hn⟩ := hn
    have pm : (out.map backV).Perm xs := by
      rw [e1]
      exact h2.perm.map backV
    have hp : Paired (PrAt X.K H) (out.map backV) ((out.map backV).map (prK X.K H)) := by
      have : ∀ y ∈ out.map backV, PrAt X.K H y (prK X.K H y) := fun y hy => by
        obtain ⟨p, hp⟩ := paired_mem hx y (pm.mem_iff.mp hy)
        exact prK_at hp
      generalize out.map backV = ys at this
      induction ys with
      | nil => exact .nil
      | cons y ys ih => exact .cons (this y List.mem_cons_self) (ih fun z hz => this z (List.mem_cons_of_mem _ hz))
    have es : (out.map backV).map (prK X.K H) = sortS leP is := by
      refine sortS_eq leP_tot leP_trans leP_anti ?_ ?_
      · rw [ek hx]
        exact pm.map _
      · rw [List.map_map, List.pairwise_map]
        refine h1.imp fun {x y} hxy => ?_
        unfold leP
        have hxy : SrtO.lexB (prK X.K H (backV y)) (prK X.K H (backV x)) = false := hxy
        show (!SrtO.lexB (prK X.K H (backV y)) (prK X.K H (backV x))) = true
        rw [hxy] <;> rfl
    rw [es] at hp
    refine ⟨.ref d, upd H d (.lst (out.map backV)), I.laid (t' := s.toks) kp hd ⟨?_, out, n, vals_back h3, hn⟩, rfl, q _ d hp (I.hok.fresh hd)⟩
    rw [pm.length_eq]
    exact hz
def fSorted (xs : List PV) (st : Sto) : Res PV := match xs with
  | [.ref k] => match lstAt st k with
    | some ys => match intsOf ys with
      | some is => .ok (.ref st.length) (st ++ [.lst ((sortS leI is).map .int)])
      | none => match strsOf ys with
        | some ss => if Nat.blt ss.length 64 = true then .ok (.ref st.length) (st ++ [.lst ((sortS leS ss).map .str)]) else .bad
        | none => match pairsOf ys with
          | some is => .ok (.ref st.length) (st ++ [.lst ((sortS leP is).map fun p => .tup [.int p.1, .int p.2])])
          | none => .bad
    | none => .bad
  | _ => .bad
def rSortAll (K : PySem.W.Frag) : List V → Hp → VK → Prop := fun xs H Q => rSortedI K xs H Q ∨ rSortedS K xs H Q ∨ rSortedPT K xs H Q
theorem call_sortA : CallR X (.builtin "sorted") (rSortAll X.K) := CallR.or cr_sortedI (CallR.or cr_sortedS cr_sortedPT)
theorem risingS_pw : ∀ (p : Str) (l : List Str), risingS p l = true → (p :: l).Pairwise fun a b => leS (ofS a) (ofS b) = true
  | p, [], _ => List.pairwise_singleton _ _
  | p, x :: r, h => by
    unfold risingS at h
    rw [Bool.and_eq_true] at h
    have ih := risingS_pw x r h.2
    have h1 : leS (ofS p) (ofS x) = true := h.1
    refine List.pairwise_cons.mpr ⟨fun z hz => ?_, ih⟩
    rcases List.mem_cons.mp hz with rfl | hz
    · exact h1
    · exact leS_trans _ _ _ h1 ((List.pairwise_cons.mp ih).1 z hz)
theorem ok_sorted : CallOK J fSorted (rSortAll J.W.K) := by
  intro E H ρ st ps xs Q r h g
  unfold fSorted at g
  split at g
  · split at g
    · rename_i k ys e1
      obtain ⟨x, rfl, _, rfl⟩ := h.one
      obtain ⟨vs, q, hv⟩ := r.seq e1
      split at g
      · rename_i is e2
        rw [rvs_ints e2 hv] at q
        refine .inl ⟨_, is, rfl, q, fun ns' p h1 h2 hp => ?_⟩
        have e := sortS_eq (le := leI) (fun a b => by unfold leI; rw [decide_eq_true_eq, decide_eq_true_eq]; omega) (fun a b c => by unfold leI; simp only [decide_eq_true_eq]; omega) (fun a b => by unfold leI; simp only [decide_eq_true_eq]; omega) h1 (h2.imp fun hxy => by unfold leI; exact decide_eq_true hxy)
        subst e
        exact g _ _ _ (.newL r hp (rvs_of_ints _)) ⟨by simp, by rw [put_same]⟩
      · split at g
        · rename_i ss e2
          split at g
          · rename_i hz
            rw [rvs_strs e2 hv] at q
            refine .inr (.inl ⟨_, ss.map toS, rfl, q, by rw [List.length_map]; exact Nat.le_of_ble_eq_true hz, fun zs p h1 h2 hp => ?_⟩)
            have e : zs.map ofS = sortS leS ss := by
              refine sortS_eq leS_tot leS_trans leS_anti ?_ ?_
              · have := h1.map ofS
                rw [List.map_map] at this
                have e3 : (ofS ∘ toS) = id := by
                  funext z
                  show (z.toArray).toList = z
                  simp
                rw [e3, List.map_id] at this
                exact this
              · rw [List.pairwise_map]
                cases zs with
                | nil => exact .nil
                | cons z zs => exact risingS_pw z zs h2
            have e4 : zs = (sortS leS ss).map toS := by
              rw [← e, List.map_map]
              have : (toS ∘ ofS) = id := by
                funext z
                exact toS_ofS z
              rw [this, List.map_id]
            subst e4
            exact g _ _ _ (.newL r hp (rvs_of_strs _)) ⟨by simp, by rw [put_same]⟩
          · exact g.elim
        · split at g
          · rename_i is e2
            refine .inr (.inr ⟨_, vs, is, rfl, q, rvs_pairs e2 hv, fun zs p h1 hp => ?_⟩)
            exact g _ _ _ (.newL r hp (rvs_of_pairs h1)) ⟨by simp, by rw [put_same]⟩
          · exact g.elim
    · exact g.elim
  · exact g.elim
end
end Mi
end
section
set_option maxRecDepth 100000
set_option maxHeartbeats 4000000
namespace Mi
open PySem PySem.Spec PyProof.Rows L2
section
variable {X : Cx} {J : Jx}
/-! ### methods -/
def isStr (p : PV) (_ : Sto) : Bool := match p with
  | .str _ => true
  | _ => false
def isTup (p : PV) (_ : Sto) : Bool := match p with
  | .tup _ => true
  | _ => false
def isLst (p : PV) (st : Sto) : Bool := match p with
  | .ref k => (lstAt st k).isSome
  | _ => false
theorem ty_str : TyOK J "str" isStr := by
  intro H ρ st p x r h e
  cases p <;> simp only [isStr] at e <;> try (cases e; done)
  rename_i s
  have h : x = .str (toS s) := h
  subst h
  exact rfl
theorem ty_lst : TyOK J "list" isLst := by
  intro H ρ st p x r h e
  cases p <;> simp only [isLst] at e <;> try (cases e; done)
  rename_i k
  obtain ⟨_, rfl⟩ := h
  obtain ⟨xs, ex⟩ := Option.isSome_iff_exists.mp e
  obtain ⟨vs, q, _⟩ := r.seq ex
  exact .inl ⟨rfl, vs, q⟩
/-- a list of the store, written -/
def onLst (p : PV) (st : Sto) (f : List PV → Option (List PV)) : Res PV := match p with
  | .ref k => match st[k]? with
    | some (.lst xs) => match f xs with
      | some ys => .ok .non (st.set k (.lst ys))
      | none => .bad
    | _ => .bad
  | _ => .bad
def mAppend (p : PV) (ps : List PV) (st : Sto) : Res PV := match ps with
  | [q] => onLst p st fun xs => if Nat.blt xs.length 16777216 = true then some (xs ++ [q]) else none
  | _ => .bad
theorem ok_append : MetOK J mAppend rAppend := by
  intro E H ρ st p ps x xs Q r hx hxs g
  unfold mAppend at g
  split at g
  · unfold onLst at g
    split at g
    · split at g
      · rename_i q _ k ys e1
        split at g
        · rename_i zs e2
          dsimp only at e2
          split at e2
          · rename_i hz
            cases e2
            obtain ⟨_, rfl⟩ := hx
            obtain ⟨y, rfl, hy⟩ := hxs.one
            obtain ⟨vs, h1, h2⟩ := r.lst e1
            refine ⟨_, vs, y, rfl, rfl, h1, by rw [← h2.length, sizeLine_eq]; exact Nat.le_of_ble_eq_true hz, ?_⟩
            exact g _ ρ _ (.setL r e1 rfl (h2.append ⟨y, [], rfl, hy, rfl⟩)) rfl
          · cases e2
        · exact g.elim
      · exact g.elim
    · exact g.elim
  · exact g.elim
def mExtend (p : PV) (ps : List PV) (st : Sto) : Res PV := match ps with
  | [.ref j] => match st[j]? with
    | some (.lst zs) => onLst p st fun xs => if szOk (xs.length + zs.length) = true then some (xs ++ zs) else none
    | _ => .bad
  | _ => .bad
theorem ok_extend : MetOK J mExtend rExtend := by
  intro E H ρ st p ps x xs Q r hx hxs g
  unfold mExtend at g
  split at g
  · split at g
    · rename_i j zs e0
      unfold onLst at g
      split at g
      · split at g
        · rename_i k ys e1
          split at g
          · rename_i us e2
            dsimp only at e2
            split at e2
            · rename_i hz
              cases e2
              obtain ⟨_, rfl⟩ := hx
              obtain ⟨y, rfl, _, rfl⟩ := hxs.one
              obtain ⟨vs, h1, h2⟩ := r.lst e1
              obtain ⟨ws, h3, h4⟩ := r.lst e0
              refine ⟨_, _, vs, ws, rfl, rfl, h1, h3, by rw [← h2.length, ← h4.length]; exact szOk_le hz, ?_⟩
              exact g _ ρ _ (.setL r e1 rfl (h2.append h4)) rfl
            · cases e2
          · exact g.elim
        · exact g.elim
      · exact g.elim
    · exact g.elim
  · exact g.elim
/-- sep.join(..) -/
def glue (sep : List Nat) : List (List Nat) → List Nat
  | [] => []
  | [x] => x
  | x :: y :: r => x ++ sep ++ glue sep (y :: r)
def mJoin (p : PV) (ps : List PV) (st : Sto) : Res PV := match p, ps with
  | .str a, [q] => match seqOf st q with
    | some ys => match strsOf ys with
      | some ss => if szOk ((ss.map List.length).sum + ss.length * a.length) = true then .ok (.str (glue a ss)) st else .bad
      | none => .bad
    | none => .bad
  | _, _ => .bad
theorem glue_ok (a : List Nat) : ∀ ss : List (List Nat), Txt.join (toS a) (ss.map toS) = toS (glue a ss)
  | [] => rfl
  | [x] => rfl
  | x :: y :: r => by
    have ih := glue_ok a (y :: r)
    have e : Txt.join (toS a) ((x :: y :: r).map toS) = toS x ++ toS a ++ Txt.join (toS a) ((y :: r).map toS) := by
      unfold Txt.join
      rw [StrLaws.glued_eq_join, StrLaws.glued_eq_join] <;> rfl
    rw [e, ih, ← str_app, ← str_app] <;> rfl
theorem ok_join : MetOK J mJoin (fun x xs H Q => ∃ a p, ∃ ys : List Str, x = .str a ∧ xs = [.ref p] ∧ (SqL J.W.K H p (ys.map V.str) ∨ SqT J.W.K H p (ys.map V.str)) ∧ (ys.map (·.length)).sum + ys.length * a.length ≤ 16777216 ∧ Q (.str (Txt.join a ys)) H) := by
  intro E H ρ st p ps x xs Q r hx hxs g
  unfold mJoin at g
  split at g
  · split at g
    · rename_i a q _ ys e1
      split at g
      · rename_i _ ss e2
        split at g
        · rename_i hz
          obtain ⟨y, rfl, hy⟩ := hxs.one
          obtain ⟨b, vs, rfl, hq, hv⟩ := seq_ok r hy e1
          rw [rvs_strs e2 hv] at hq
          refine ⟨toS a, b, ss.map toS, hx, rfl, hq, ?_, ?_⟩
          · have e3 : (ss.map toS).map (·.length) = ss.map List.length := by
              rw [List.map_map]
              exact congrArg (fun f => ss.map f) (funext fun z => str_len z)
            rw [e3, List.length_map, str_len]
            have := szOk_le hz
            rw [sizeLine_eq] at this
            exact this
          · rw [glue_ok]
            exact g H ρ _ (.refl r) rfl
        · exact g.elim
      · exact g.elim
    · exact g.elim
  · exact g.elim
/-- a.index(b), found -/
def mSIndex (p : PV) (ps : List PV) (st : Sto) : Res PV := match p, ps with
  | .str a, [.str b] => match Builtin.Str.occurrences (toS a) (toS b) 0 a.length 1 with
    | i :: _ => .ok (.int (i : Nat)) st
    | [] => .bad
  | _, _ => .bad
theorem ok_sindex : MetOK J mSIndex (fun x xs H Q => ∃ a b i rest, x = .str a ∧ xs = [.str b] ∧ Builtin.Str.occurrences a b 0 a.length 1 = i :: rest ∧ Q (.int (i : Nat)) H) := by
  intro E H ρ st p ps x xs Q r hx hxs g
  unfold mSIndex at g
  split at g
  · split at g
    · rename_i a b _ i rest e
      obtain ⟨y, rfl, hy⟩ := hxs.one
      exact ⟨toS a, toS b, i, rest, hx, by rw [hy], by rw [str_len]; exact e, g H ρ _ (.refl r) rfl⟩
    · exact g.elim
  · exact g.elim
/-- of a text alone -/
def mStr0 (f : Str → Str) (p : PV) (ps : List PV) (st : Sto) : Res PV := match p, ps with
  | .str a, [] => if szOk a.length = true then .ok (.str (ofS (f (toS a)))) st else .bad
  | _, _ => .bad
def mStrip := mStr0 Txt.strip
def mRstrip := mStr0 Txt.rstrip
theorem ok_str0 {f : Str → Str} : MetOK J (mStr0 f) (fun x xs H Q => ∃ a, x = .str a ∧ xs = [] ∧ a.length ≤ sizeLine ∧ Q (.str (f a)) H) := by
  intro E H ρ st p ps x xs Q r hx hxs g
  unfold mStr0 at g
  split at g
  · split at g
    · rename_i a hz
      exact ⟨toS a, hx, hxs.nil, by rw [str_len]; exact szOk_le hz, g H ρ _ (.refl r) rfl⟩
    · exact g.elim
  · exact g.elim
/-! ### operators, joined -/
theorem op_addA : OpR X (binaryOp .Add) (rAddA X.K) := OpR.or op_add (OpR.or op_add_ib (OpR.or op_add_str (OpR.or op_catA op_cat)))
theorem op_eqA (hu : X.A.units + 64 < cLine) : OpR X (compareOp .Eq) (rEqA X.K) := OpR.or op_eq (op_eqD hu)
theorem op_neA (hu : X.A.units + 64 < cLine) : OpR X (compareOp .NotEq) (rNeA X.K) := OpR.or op_ne (op_neD hu)
theorem op_ltA : OpR X (compareOp .Lt) (rCmpA (fun i j => decide (i < j)) (fun a b => decide (a < b))) := OpR.or op_lt op_lt_str
theorem op_leA : OpR X (compareOp .LtE) (rCmpA (fun i j => decide (i ≤ j)) (fun a b => !decide (b < a))) := OpR.or op_le op_le_str
theorem op_gtA : OpR X (compareOp .Gt) (rCmpA (fun i j => decide (j < i)) (fun a b => decide (b < a))) := OpR.or op_gt op_gt_str
theorem op_geA : OpR X (compareOp .GtE) (rCmpA (fun i j => decide (j ≤ i)) (fun a b => !decide (a < b))) := OpR.or op_ge op_ge_str
theorem op_mulA : OpR X (binaryOp .Mult) (rMulA X.K) := OpR.or op_mulW (OpR.or op_rep (OpR.or op_repTB op_repS))
end
end Mi
end
section
set_option maxRecDepth 100000
set_option maxHeartbeats 2000000
/-! MiTxt: more of texts: str of an int, find -/
namespace Mi
open PySem PySem.Spec PyProof.Rows L2
section
variable {X : Cx} {J : Jx}
/-- str(i) -/
def fStrI (xs : List PV) (st : Sto) : Res PV := match xs with
  | [.int i] => if decide (i.natAbs.log2 < 1920) = true then .ok (.str (ofS (toString i))) st else .bad
  | _ => .bad
theorem ok_strI : CallOK J fStrI (fun xs H Q => ∃ i, xs = [.int i] ∧ i.natAbs.log2 < 1920 ∧ Q (.str (toString i)) H) := by
  intro E H ρ st ps xs Q r h g
  unfold fStrI at g
  split at g
  · rename_i i
    split at g
    · rename_i hz
      obtain ⟨x, rfl, hx⟩ := h.one
      have hx : x = .int i := hx
      subst hx
      exact ⟨i, rfl, of_decide_eq_true hz, g H ρ _ (.refl r) rfl⟩
    · exact g.elim
  · exact g.elim
/-- a.find(b) -/
def mFind (p : PV) (ps : List PV) (st : Sto) : Res PV := match p, ps with
  | .str a, [.str b] => .ok (.int (Txt.find (toS a) (toS b))) st
  | _, _ => .bad
theorem ok_find : MetOK J mFind (fun x xs H Q => ∃ a b, x = .str a ∧ xs = [.str b] ∧ Q (.int (Txt.find a b)) H) := by
  intro E H ρ st p ps x xs Q r hx hxs g
  unfold mFind at g
  split at g
  · rename_i a b
    obtain ⟨y, rfl, hy⟩ := hxs.one
    exact ⟨toS a, toS b, hx, by rw [hy], g H ρ _ (.refl r) rfl⟩
  · exact g.elim
/-- a.find(b, i) -/
def mFind3 (p : PV) (ps : List PV) (st : Sto) : Res PV := match p, ps with
  | .str a, [.str b, .int i] => .ok (.int (Txt.find3 (toS a) (toS b) i)) st
  | _, _ => .bad
theorem ok_find3 : MetOK J mFind3 (fun x xs H Q => ∃ (a b : Str) (i : Int), x = .str a ∧ xs = [.str b, .int i] ∧ Q (.int (Txt.find3 a b i)) H) := by
  intro E H ρ st p ps x xs Q r hx hxs g
  unfold mFind3 at g
  split at g
  · rename_i a b i
    obtain ⟨y, z, rfl, hy, hz⟩ := hxs.two
    exact ⟨toS a, toS b, i, hx, by rw [hy, hz], g H ρ _ (.refl r) rfl⟩
  · exact g.elim
/-- int(x): an int, a truth value, a text of digits -/
def fIntX (xs : List PV) (st : Sto) : Res PV := match xs with
  | [.int i] => .ok (.int i) st
  | [.bl k] => .ok (.int (if k then 1 else 0)) st
  | [.str a] => if Nat.ble a.length 640 = true then match PySem.intText? (toS a) with
    | some n => .ok (.int n) st
    | none => .bad
    else .bad
  | _ => .bad
def rIntX : List V → Hp → VK → Prop := fun xs H Q => rIntA xs H Q ∨ ∃ a n, xs = [.str a] ∧ PySem.intText? a = some n ∧ a.length ≤ 640 ∧ Q (.int n) H
theorem call_intX : CallR X (.type "int") rIntX := CallR.or call_int1 call_int_str
theorem ok_intX : CallOK J fIntX rIntX := by
  intro E H ρ st ps xs Q r h g
  unfold fIntX at g
  split at g
  · rename_i i
    obtain ⟨x, rfl, hx⟩ := h.one
    have hx : x = .int i := hx
    subst hx
    exact .inl (.inl ⟨i, rfl, g H ρ _ (.refl r) rfl⟩)
  · rename_i i
    obtain ⟨x, rfl, hx⟩ := h.one
    have hx : x = .bl i := hx
    subst hx
    exact .inl (.inr ⟨i, rfl, g H ρ _ (.refl r) rfl⟩)
  · split at g
    · rename_i a hz
      split at g
      · rename_i n hn
        obtain ⟨x, rfl, hx⟩ := h.one
        have hx : x = .str (toS a) := hx
        subst hx
        exact .inr ⟨toS a, n, rfl, hn, by rw [str_len]; exact Nat.le_of_ble_eq_true hz, g H ρ _ (.refl r) rfl⟩
      · exact g.elim
    · exact g.elim
  · exact g.elim
theorem e_intX (i : Int) (st : Sto) : fIntX [.int i] st = .ok (.int i) st := rfl
theorem e_intXb (b : Bool) (st : Sto) : fIntX [.bl b] st = .ok (.int (if b then 1 else 0)) st := rfl
theorem int3 : ∀ a b c : Nat, a < 10 → b < 10 → c < 10 → PySem.intText? (toS [48 + a, 48 + b, 48 + c]) = some ((100 * a + 10 * b + c : Nat) : Int) := by
  have h : ((List.range 10).all fun a => (List.range 10).all fun b => (List.range 10).all fun c => decide (PySem.intText? (toS [48 + a, 48 + b, 48 + c]) = some ((100 * a + 10 * b + c : Nat) : Int))) = true := by decide +kernel
  intro a b c ha hb hc
  have h1 := List.all_eq_true.mp h a (List.mem_range.mpr ha)
  have h2 := List.all_eq_true.mp h1 b (List.mem_range.mpr hb)
  exact of_decide_eq_true (List.all_eq_true.mp h2 c (List.mem_range.mpr hc))
end
end Mi
end
section
set_option maxRecDepth 100000
set_option maxHeartbeats 4000000
/-! MiZip: zip of two lists, or of two tuples -/
namespace Mi
open PySem PySem.Spec PyProof.Rows L2
def zG (j k : Nat) : Nat → Sto → Option (Option PV) := fun i st => match lstAt st j with
  | some xs => match lstAt st k with
    | some ys => match xs[i]? with
      | some x => match ys[i]? with
        | some y => some (some (.tup [x, y]))
        | none => some none
      | none => some none
    | none => none
  | none => none
def zV : List PV → List PV → List PV
  | x :: xs, y :: ys => .tup [x, y] :: zV xs ys
  | _, _ => []
theorem zV_get : ∀ (xs ys : List PV) (i : Nat), (zV xs ys)[i]? = match xs[i]? with
    | some x => match ys[i]? with
      | some y => some (PV.tup [x, y])
      | none => none
    | none => none
  | [], ys, i => by simp [zV]
  | x :: xs, [], i => by
    simp only [zV, List.getElem?_nil]
    split <;> rfl
  | x :: xs, y :: ys, 0 => by simp [zV]
  | x :: xs, y :: ys, i + 1 => by
    simp only [zV, List.getElem?_cons_succ]
    exact zV_get xs ys i
theorem zV_len : ∀ (xs ys : List PV), (zV xs ys).length = min xs.length ys.length
  | [], ys => by simp [zV]
  | x :: xs, [] => by simp [zV]
  | x :: xs, y :: ys => by
    simp only [zV, List.length_cons]
    rw [zV_len xs ys]
    omega
def fZip (vs : List PV) (st : Sto) : Res ItD := match vs with
  | [.ref j, .ref k] => match lstAt st j with
    | some xs => match lstAt st k with
      | some _ => .ok (.dyn (xs.length + 1) (zG j k)) st
      | none => .bad
    | none => .bad
  | [.tup xs, .tup ys] => .ok (.vals (zV xs ys)) st
  | _ => .bad
section
variable {W : Wd} {H0 : Hp} {ρ0 : Nat → Addr} {n0 : Nat}
theorem rv_two {H : Hp} {ρ : Nat → Addr} {n : Nat} {T : Addr} {p q : PV} {x y : V} (hT : H T = none) (h : RV W H ρ n p x) (h2 : RV W H ρ n q y) : RV W (upd H T (.tup [x, y])) ρ n (.tup [p, q]) (.ref T) :=
  rv_newT (xs := [p, q]) (vs := [x, y]) hT ⟨x, [y], rfl, h, y, [], rfl, h2, rfl⟩
theorem it_zipL {j k m : Nat} (hj : j < n0) (hk : k < n0) : ItOK W H0 ρ0 n0 (.dyn m (zG j k)) (Itz W.K (ρ0 j) (ρ0 k)) := fun i H ρ st s => by
  unfold zG
  cases e : lstAt st j with
  | none => trivial
  | some xs =>
    cases e' : lstAt st k with
    | none => trivial
    | some ys =>
      obtain ⟨vs, q, hv⟩ := s.rs.seq e
      obtain ⟨ws, q', hw⟩ := s.rs.seq e'
      rw [s.agr j hj] at q
      rw [s.agr k hk] at q'
      dsimp only
      cases ex : xs[i]? with
      | none => exact ⟨vs, ws, q, q', .inl (by rw [← hv.length]; exact List.getElem?_eq_none_iff.mp ex)⟩
      | some p =>
        cases ey : ys[i]? with
        | none => exact ⟨vs, ws, q, q', .inr (by rw [← hw.length]; exact List.getElem?_eq_none_iff.mp ey)⟩
        | some p' =>
          obtain ⟨v, e1, rv⟩ := hv.get ex
          obtain ⟨w, e2, rw'⟩ := hw.get ey
          refine ⟨⟨vs, ws, v, w, q, q', e1, e2⟩, fun x H' ⟨T, y, z, e3, hT, e4, e5, e6⟩ => ?_⟩
          have e7 := e5 vs q
          rw [e1] at e7
          cases e7
          have e8 := e6 ws q'
          rw [e2] at e8
          cases e8
          subst e3 e4
          exact ⟨.newT s.rs hT, rv_two hT rv rw'⟩
theorem it_zipT {a b : Addr} {ps qs : List PV} {vs ws : List V} (hs : SqT W.K H0 a vs) (hs2 : SqT W.K H0 b ws) (hv : RVs W H0 ρ0 n0 ps vs) (hw : RVs W H0 ρ0 n0 qs ws) : ItOK W H0 ρ0 n0 (.vals (zV ps qs)) (RZ.ItzT W.K a b) := fun i H ρ st s => by
  have hq := s.ext.sqT hs
  have hq2 := s.ext.sqT hs2
  have hr := s.rvs hv
  have hr2 := s.rvs hw
  refine ⟨fun p e => ?_, fun e => ⟨vs, ws, hq, hq2, by
    rw [zV_len, hv.length, hw.length] at e
    omega⟩⟩
  rw [zV_get] at e
  cases ex : ps[i]? with
  | none =>
    rw [ex] at e
    cases e
  | some p1 =>
    rw [ex] at e
    dsimp only at e
    cases ey : qs[i]? with
    | none =>
      rw [ey] at e
      cases e
    | some p2 =>
      rw [ey] at e
      cases e
      obtain ⟨v, e1, rv⟩ := hr.get ex
      obtain ⟨w, e2, rw'⟩ := hr2.get ey
      refine ⟨⟨vs, ws, v, w, hq, hq2, e1, e2⟩, fun x H' ⟨T, y, z, e3, hT, e4, e5, e6⟩ => ?_⟩
      have e7 := e5 vs hq
      rw [e1] at e7
      cases e7
      have e8 := e6 ws hq2
      rw [e2] at e8
      cases e8
      subst e3 e4
      exact ⟨.newT s.rs hT, rv_two hT rv rw'⟩
end
section
variable {X : Cx} {J : Jx} {e e2 : Expr} {dl : DL} {elts : List Expr} {kk : Nat} {p pos tpos : Pos}
theorem xi_zip (J2 : XJ X J) (hg : Gl X "zip") (hm : X.mg "zip" = none) (ha : PA X [e, e2] (rdL J dl)) (hs : starEach [e, e2] X.env = (false, eval e X.env) :: starEach [e2] X.env := by rfl) (hpl : (backTo pos (starEach [e2] X.env)).any (·.1) = false := by rfl) : PI X (.Tuple elts kk tpos) (.Call (.Name "zip" p) [e, e2] [] pos) (rdI J (dRng fZip dl)) := PI.byCases fun σ H R h => by
  obtain ⟨ρ, th, env, st, S, g⟩ := h
  unfold dRng at g
  refine ⟨_, RZ.pi_zipA hg hm ha hs hpl, ρ, th, env, st, S, ?_⟩
  cases r : dl th env st with
  | bad =>
    rw [r] at g
    exact g.elim
  | exc x st' =>
    rw [r] at g
    exact g
  | ok v st' =>
    rw [r] at g
    replace g : gR J.W (fun H ρ n p x => ItOK J.W H ρ n p x) (fun c dd H' => J.Wx c dd σ H') (fZip v st') H ρ st.length R := g
    unfold fZip at g
    split at g
    · split at g
      · split at g
        · rename_i j k _ xs ex _ ys ey
          intro H' ρ' x s rv
          obtain ⟨y, z, rfl, ⟨hj, rfl⟩, ⟨hk, rfl⟩⟩ := rv.two
          obtain ⟨vs, q, _⟩ := s.rs.seq ex
          obtain ⟨ws, q', _⟩ := s.rs.seq ey
          exact ⟨_, _, vs, ws, rfl, .inl ⟨by rw [← J2.K]; exact q, by rw [← J2.K]; exact q', by rw [← J2.K]; exact g H' ρ' _ s (it_zipL hj hk)⟩⟩
        · exact g.elim
      · exact g.elim
    · intro H' ρ' x s rv
      obtain ⟨y, z, rfl, ⟨a, vs, rfl, q, hv⟩, ⟨b, ws, rfl, q', hw⟩⟩ := rv.two
      exact ⟨_, _, vs, ws, rfl, .inr ⟨by rw [← J2.K]; exact q, by rw [← J2.K]; exact q', by rw [← J2.K]; exact g H' ρ' _ s (it_zipT q q' hv hw)⟩⟩
    · exact g.elim
end
end Mi
end
section
set_option maxRecDepth 100000
set_option maxHeartbeats 2000000
/-! MiPop: pop of a list, at its end or at a place -/
namespace Mi
open PySem PySem.Spec PyProof.Rows L2
section
variable {X : Cx} {J : Jx}
theorem RVs.last {W : Wd} {H : Hp} {ρ : Nat → Addr} {n : Nat} {ps : List PV} {vs : List V} (h : RVs W H ρ n ps vs) : RVs W H ρ n ps.dropLast vs.dropLast := by
  rw [List.dropLast_eq_take, List.dropLast_eq_take, h.length]
  exact h.take _
theorem RVs.erase {W : Wd} {H : Hp} {ρ : Nat → Addr} {n : Nat} {ps : List PV} {vs : List V} (h : RVs W H ρ n ps vs) (k : Nat) : RVs W H ρ n (ps.eraseIdx k) (vs.eraseIdx k) := by
  rw [List.eraseIdx_eq_take_drop_succ, List.eraseIdx_eq_take_drop_succ]
  exact (h.take k).append (h.drop (k + 1))
/-- xs.pop() -/
def mPop0 (p : PV) (ps : List PV) (st : Sto) : Res PV := match p, ps with
  | .ref k, [] => match st[k]? with
    | some (.lst xs) => match xs[xs.length - 1]? with
      | some y => .ok y (st.set k (.lst xs.dropLast))
      | none => .bad
    | _ => .bad
  | _, _ => .bad
theorem ok_pop0 : MetOK J mPop0 rPop := by
  intro E H ρ st p ps x xs Q r hx hxs g
  unfold mPop0 at g
  split at g
  · split at g
    · rename_i k _ ys e1
      split at g
      · rename_i y e2
        obtain ⟨_, rfl⟩ := hx
        obtain ⟨vs, h1, h2⟩ := r.lst e1
        obtain ⟨v, e3, rv⟩ := h2.get e2
        have S := Stp.setL r e1 rfl h2.last
        exact ⟨_, vs, v, rfl, hxs.nil, h1, by rw [← h2.length]; exact e3, g _ ρ _ S (S.rv rv)⟩
      · exact g.elim
    · exact g.elim
  · exact g.elim
/-- xs.pop(i), 0 ≤ i -/
def mPop1 (p : PV) (ps : List PV) (st : Sto) : Res PV := match p, ps with
  | .ref k, [.int i] => if decide (0 ≤ i ∧ i < 2 ^ 63) = true then match st[k]? with
    | some (.lst xs) => match xs[i.toNat]? with
      | some y => .ok y (st.set k (.lst (xs.eraseIdx i.toNat)))
      | none => .bad
    | _ => .bad
    else .bad
  | _, _ => .bad
theorem ok_pop1 : MetOK J mPop1 rPopAt := by
  intro E H ρ st p ps x xs Q r hx hxs g
  unfold mPop1 at g
  split at g
  · split at g
    · rename_i k i hd
      have hi := of_decide_eq_true hd
      split at g
      · rename_i ys e1
        split at g
        · rename_i y e2
          obtain ⟨_, rfl⟩ := hx
          obtain ⟨u, rfl, hu⟩ := hxs.one
          have hu : u = .int i := hu
          subst hu
          obtain ⟨vs, h1, h2⟩ := r.lst e1
          obtain ⟨v, e3, rv⟩ := h2.get e2
          have S := Stp.setL r e1 rfl (h2.erase i.toNat)
          have hl : i.toNat < vs.length := (List.getElem?_eq_some_iff.mp e3).1
          refine ⟨_, vs, i, i.toNat, v, rfl, rfl, h1, by omega, by omega, ?_, e3, g _ ρ _ S (S.rv rv)⟩
          unfold seqIndex?
          have h0 : ¬ i < 0 := by omega
          dsimp only
          rw [if_neg h0, if_pos]
          rw [Bool.and_eq_true]
          exact ⟨decide_eq_true hi.1, decide_eq_true (by omega)⟩
        · exact g.elim
      · exact g.elim
    · exact g.elim
  · exact g.elim
end
end Mi
end
section
set_option maxRecDepth 100000
set_option maxHeartbeats 4000000
namespace Mi
open PySem PySem.Spec PyProof.Rows L2
open Sem (wp)
/-! ### a dict beside tuples: never equal -/
theorem dict_eq_tup (l b : Addr) (dd dd2 : Option Addr) (dt : Data) (its2 : Array Value) (n2 : Nat) (sl sl2 : Array (Option Value)) :
    Meets (Builtin.«dict.__eq__» ⟨[.ref l, .ref b], []⟩) (fun _ R s => s.heap.get? l = some { cls := .type "dict", dict := dd, data := dt, slots := sl } ∧ s.heap.get? b = some { cls := .type "tuple", dict := dd2, data := .seq its2 n2, slots := sl2 } ∧
      R (.ok (.ret .notImplemented)) s) :=
  .of_wp fun prog w A R s h => by
    obtain ⟨h0, gens, drawn, toks, os⟩ := s
    obtain ⟨q1, q2, q3⟩ := h
    have sub1 := F.sub_tuple_dict
    have sub2 := F.sub_dict_tuple
    wp_walk using wpAny_loadPart' q1, wpAny_loadPart' q2
    exact ⟨_, rfl, q3⟩
theorem tup_eq_dict (l b : Addr) (dd dd2 : Option Addr) (dt : Data) (its2 : Array Value) (n2 : Nat) (sl sl2 : Array (Option Value)) :
    Meets (Builtin.«tuple.__eq__» ⟨[.ref b, .ref l], []⟩) (fun _ R s => s.heap.get? l = some { cls := .type "dict", dict := dd, data := dt, slots := sl } ∧ s.heap.get? b = some { cls := .type "tuple", dict := dd2, data := .seq its2 n2, slots := sl2 } ∧
      R (.ok (.ret .notImplemented)) s) :=
  .of_wp fun prog w A R s h => by
    obtain ⟨h0, gens, drawn, toks, os⟩ := s
    obtain ⟨q1, q2, q3⟩ := h
    have sub1 := F.sub_tuple_dict
    have sub2 := F.sub_dict_tuple
    wp_walk using wpAny_loadPart' q1, wpAny_loadPart' q2
    exact ⟨_, rfl, q3⟩
theorem eqAt_tup_dict {A : Around} {s : Shared} {b l : Addr} {its : Array Value} {o : Obj} (hb : s.heap.IsTuple b its) (hl : s.heap.get? l = some o) (hc : o.cls = .type "dict") (hu : A.units < cLine) : SeqAt.EqAt A s (.ref b) (.ref l) false := by
  obtain ⟨⟨c2, d2, t2, s2⟩, ho2, hc2, n2, hd2⟩ := hb
  obtain ⟨c1, d1, t1, s1⟩ := o
  simp only at hc hc2 hd2
  subst hc hc2 hd2
  have hne : b ≠ l := fun e => by
    rw [e, hl] at ho2
    exact absurd (congrArg Obj.cls (Option.some.inj ho2)) (by simp)
  refine .of_refs hne fun prog w E Q h => ?_
  exact SeqAt.rc_eq_decline_or (k := false) ⟨_, ho2, rfl⟩ ⟨_, hl, rfl⟩ (by decide) F.sub_dict_tuple F.slot_tuple_eq F.slot_dict_eq_refl
    (fun _ hq => call_meets F.slot_tuple_eq ⟨_, ho2, rfl⟩ F.entry_tuple_eq (F.args_tuple_eq_2 _ _) (tup_eq_dict l b d1 d2 t1 its n2 s1 s2) ⟨hl, ho2, hq⟩)
    (fun _ hq => call_meets F.slot_dict_eq_refl ⟨_, hl, rfl⟩ F.entry_dict_eq (F.args_dict_eq_2 _ _) (dict_eq_tup l b d1 d2 t1 its n2 s1 s2) ⟨hl, ho2, hq⟩)
    (fun _ hq => SeqAt.wpAny_isSame_ref_other' hne ho2 hl (by simp) hq) (.inr hu) h
/-- a dict in a tuple of tuples: it isn't there -/
def rInDict (K : PySem.W.Frag) : R2 := fun x y H Q => ∃ a b kvs vs, x = .ref a ∧ H a = some (.dK kvs) ∧ y = .ref b ∧ SqT K H b vs ∧ (∀ v ∈ vs, ∃ t us, v = .ref t ∧ SqT K H t us) ∧ Q (.bl false) H
theorem paired_back {α β : Type} {R : α → β → Prop} : ∀ {xs : List α} {ys : List β}, Paired R xs ys → ∀ y ∈ ys, ∃ x ∈ xs, R x y
  | _, _, .nil, x, h => by cases h
  | _, _, .cons r t, x, h => by
    rcases List.mem_cons.mp h with rfl | h
    · exact ⟨_, List.mem_cons_self, r⟩
    · obtain ⟨z, hz, q⟩ := paired_back t x h
      exact ⟨z, List.mem_cons_of_mem _ hz, q⟩
section
variable {X : Cx} {J : Jx}
theorem op_inDict (hu : X.A.units + 65 < cLine) : OpR X (compareOp .In) (rInDict X.K) := by
  intro pins s σ H x y v u Q I rx ry h
  obtain ⟨a, b, kvs, vs, rfl, ha, rfl, hb, hall, q⟩ := h
  cases rx
  cases ry
  obtain ⟨its, rv, tp, _⟩ := I.tuple hb
  obtain ⟨_, _, ws, _, o, es, ep, h1, h2, _⟩ := (show ObjOk X.prog X.w H s.heap a (.dK kvs) from I.hok a _ ha)
  have key : ∀ z ∈ its.toArray, SeqAt.EqAt X.A.in1 s z (.ref a) false := fun z hz => by
    obtain ⟨v, hv, r⟩ := paired_back rv z (by simpa using hz)
    obtain ⟨t, us, rfl, ht⟩ := hall v hv
    have r : z = Value.ref t := r
    subst r
    obtain ⟨its2, _, tp2, _⟩ := I.tuple ht
    exact eqAt_tup_dict (show s.heap.IsTuple t its2.toArray from tp2) h1 h2.1 (by show X.A.units + 1 < cLine; omega)
  refine SeqAt.in_tupleAt (fun _ => false) (show s.heap.IsTuple b its.toArray from tp) key ⟨.bl false, H, I, ?_, q⟩
  show Value.bool _ = Value.bool false
  congr 1
  generalize its.toArray = arr
  simp
def isD (st : Sto) : PV → Bool
  | .ref k => match st[k]? with
    | some (.dct _) => true
    | _ => false
  | _ => false
def allTup : List PV → Bool
  | [] => true
  | .tup _ :: r => allTup r
  | _ :: _ => false
/-- in, also of a dict beside tuples -/
def pInK (x y : PV) (st : Sto) : Res PV := match isD st x, y with
  | true, .tup ys => if allTup ys = true then .ok (.bl false) st else .bad
  | _, _ => pIn x y st
def rInK (K : PySem.W.Frag) : R2 := fun x y H Q => rInDict K x y H Q ∨ rInA K (fun b => b) x y H Q
theorem op_inK (hu : X.A.units + 65 < cLine) : OpR X (compareOp .In) (rInK X.K) := OpR.or (op_inDict hu) (op_inA hu)
theorem rvs_tups {W : Wd} {H : Hp} {ρ : Nat → Addr} {n : Nat} : ∀ {ps : List PV} {vs : List V}, allTup ps = true → RVs W H ρ n ps vs → ∀ v ∈ vs, ∃ t us, v = V.ref t ∧ SqT W.K H t us
  | [], vs, _, h, v, hv => by
    have h : vs = [] := h
    rw [h] at hv
    cases hv
  | p :: ps, vs, e, ⟨w, r, e2, h1, h2⟩, v, hv => by
    subst e2
    cases p <;> simp only [allTup] at e <;> try (cases e; done)
    obtain ⟨t, us, e3, q, _⟩ := h1
    rcases List.mem_cons.mp hv with rfl | hv
    · exact ⟨t, us, e3, q⟩
    · exact rvs_tups e h2 v hv
theorem ok_inK : OpOK J pInK (rInK J.W.K) := by
  intro E H ρ st p p2 x y Q r hx hy g
  unfold pInK at g
  split at g
  · rename_i ys hd
    split at g
    · rename_i hall
      unfold isD at hd
      split at hd
      · rename_i k
        split at hd
        · rename_i kvs e1
          obtain ⟨_, rfl⟩ := hx
          obtain ⟨vs, h1, _⟩ := r.obj k _ e1
          obtain ⟨b, ws, rfl, hq, hv⟩ := hy
          exact .inl ⟨_, b, vs, ws, rfl, h1, rfl, hq, rvs_tups hall hv, g H ρ _ (.refl r) rfl⟩
        · cases hd
      · cases hd
    · exact g.elim
  · exact .inr (ok_in E H ρ st p _ x y Q r hx hy g)
/-- {} -/
def dDict0 : DE := fun _ _ st => .ok (.ref st.length) (st ++ [.dct []])
theorem xe_dict0 {pos : Pos} : PE X (.Dict [] [] pos) (rdE J dDict0) := PE.imp pe_dnewK fun σ H Q h => by
  obtain ⟨ρ, th, env, st, S, g⟩ := h
  exact fun p hp => g _ _ _ (.alloc (so := .dct []) S.rs hp ⟨[], upd_same, rfl⟩ rfl) ⟨by simp, by rw [put_same]⟩
end
end Mi
end
section
set_option maxRecDepth 100000
set_option maxHeartbeats 4000000
namespace Mi
open PySem PySem.Spec PyProof.Rows L2
/-! ### what the printed texts use -/
/-- the world of a law's call -/
abbrev W0 (K : PySem.W.Frag) : Wd := ⟨K, fun _ => none, fun _ => none, 0, []⟩
/-- the law's def answers True at each script -/
def Plain (F : Fn) : Prop := ∀ ns : List Int, ns.length ≤ 63 → (∀ z ∈ ns, Builtin.Int.intBits z ≤ 1048576) → ∃ st, F [.ref 0] [.fz (ns.map .int)] = .ok (.bl true) st
theorem RSt.fz0 {K : PySem.W.Frag} {H : Hp} {a : Addr} {ns : List Int} (h : FzL K H a (ns.map V.int)) : RSt (W0 K) H (fun _ => a) [.fz (ns.map .int)] := by
  refine ⟨fun i j o u ei _ m _ _ => ?_, fun i o e => ?_, fun p hp => nomatch hp⟩
  · cases i with
    | zero =>
      cases ei
      cases m
    | succ i => simp at ei
  · cases i with
    | zero =>
      cases e
      exact ⟨_, h, rvs_of_ints ns⟩
    | succ i => simp at e
theorem spN_law {K : PySem.W.Frag} {F : Fn} (PL : Plain F) {H : Hp} {a : Addr} {ns : List Int} (hl : ns.length ≤ 63) (hb : ∀ z ∈ ns, Builtin.Int.intBits z ≤ 1048576) (h : FzL K H a (ns.map V.int)) : spN (W0 K) 1 F [.ref a] H (fun v _ => v = .bl true) fun _ _ _ => False := by
  obtain ⟨st, e⟩ := PL ns hl hb
  refine ⟨fun _ => a, [.ref 0], [.fz (ns.map .int)], rfl, RSt.fz0 h, ⟨_, _, rfl, ⟨Nat.succ_pos _, rfl⟩, rfl⟩, ?_⟩
  rw [e]
  exact fun H' ρ' x _ hx => hx
theorem lawG0 {l : PySem.W.OpenLaw} {w : World} {K : PySem.W.Frag} {k : Nat} {x : Str} {mg : Str → Option Value} {f : Addr} {h : Heap} {fd : FuncData} {F : Fn} (PL : Plain F) (hb : ∀ (s : Shared) (u : Value), BindsTo s fd ⟨[u], []⟩ [(x, u)])
    (hF : ∀ base : Heap, K.In base → base.Ns mainGlobals mg → FnG l.prog w K mg base k f fd [x] (spN (W0 K) 1 F)) : LawG l w K k 63 x mg f h :=
  ⟨fd, [], _, fun _ hp => (nomatch hp), fun _ hp => (nomatch hp), fun _ hp => (nomatch hp), hb, fun H a ns h1 h2 _ h3 => spN_law PL h1 h2 h3, fun base h1 h2 _ => hF base h1 h2⟩
section
variable {X : Cx} {J : Jx} {x : Str} {pos : Pos}
theorem gl_of (h : X.env.kindOf x = some .globalImplicit) : Gl X x := h
theorem xe_gint {i : Int} (hg : Gl X x) (hm : ∃ t, X.mg x = some (.int i t)) (hd : (x == ("__debug__" : Str)) = false) : PE X (.Name x pos) (rdE J (dC (.int i))) := by
  obtain ⟨t, hm⟩ := hm
  exact xe_glob (p := .int i) (v := .int i) hg hm ⟨t, rfl⟩ (fun _ _ _ => rfl) hd
theorem xe_gstr {s : List Nat} {z : Str} (hz : z = toS s) (hg : Gl X x) (hm : ∃ t, X.mg x = some (.str z t)) (hd : (x == ("__debug__" : Str)) = false) : PE X (.Name x pos) (rdE J (dC (.str s))) := by
  obtain ⟨t, hm⟩ := hm
  exact xe_glob (p := .str s) (v := .str (toS s)) hg hm ⟨t, by rw [hz]⟩ (fun _ _ _ => rfl) hd
theorem u65 {k : Nat} {A : Around} (r : Room k A) : A.units + 65 < cLine := by
  have := r.un
  omega
theorem u66 {k : Nat} {A : Around} (r : Room k A) : A.units + 66 < cLine := by
  have := r.un
  omega
/-- a comprehension's parts, with the context's own facts at hand -/
theorem xc_lc {elt tg iter : Expr} {ifs : List Expr} {scope : Scope} {own : List (Str × Nat)} {pos : Pos} {di : DI} {t : Tg} {ts : DB} {el : DE} (J2 : XK2 X J) (hi : PI X tg iter (rdI J di)) (ok : blkC X.N X.env.scope scope own = true) (hsl : (t.slots.all fun i => (own.map (·.2)).contains i) = true)
    (hg : ∀ (s : Shared) (H : Hp) (C : Addr) (cl : List (Str × Addr)) (fp : List Addr), XK2 (X.blk s H scope (compEnvC scope cl C X.env) fp) J.blk → PG (X.blk s H scope (compEnvC scope cl C X.env) fp) tg (Tg.rd X.K t))
    (ht : ∀ (s : Shared) (H : Hp) (C : Addr) (cl : List (Str × Addr)) (fp : List Addr), XK2 (X.blk s H scope (compEnvC scope cl C X.env) fp) J.blk → PTs (X.blk s H scope (compEnvC scope cl C X.env) fp) ifs (rdB J.blk ts))
    (he : ∀ (s : Shared) (H : Hp) (C : Addr) (cl : List (Str × Addr)) (fp : List Addr), XK2 (X.blk s H scope (compEnvC scope cl C X.env) fp) J.blk → PE (X.blk s H scope (compEnvC scope cl C X.env) fp) elt (rdE J.blk el)) (hs : ∀ x, foldedSetIterable iter X.env x = pure x := by intro _; rfl) :
    PE X (.ListComp elt [⟨tg, iter, ifs, 0⟩] scope pos) (rdE J (dLc di t ts el (own.map (·.2)))) :=
  xe_lc J2 hi ok hsl (fun s H C cl fp => hg s H C cl fp (J2.blk _ _ _ _ _)) (fun s H C cl fp => ht s H C cl fp (J2.blk _ _ _ _ _)) (fun s H C cl fp => he s H C cl fp (J2.blk _ _ _ _ _)) hs
theorem yc_setLc {i : Nat} {y : Str} {py : Pos} {elt tg iter : Expr} {ifs : List Expr} {scope : Scope} {own : List (Str × Nat)} {pos spos : Pos} {di : DI} {t : Tg} {ts : DB} {el : DE} (J2 : XK2 X J) (hy : X.N[i]? = some y) (hyl : X.env.scope.names.lookup y = some .local)
    (hsw : swapsWith (.ListComp elt [⟨tg, iter, ifs, 0⟩] scope pos) (some (.Name y py)) spos.line X.env = pure true) (hi : PI X tg iter (rdI J di)) (ok : blkC X.N X.env.scope scope own = true) (hsl : (t.slots.all fun i => (own.map (·.2)).contains i) = true)
    (hg : ∀ (s : Shared) (H : Hp) (C : Addr) (cl : List (Str × Addr)) (fp : List Addr), XK2 (X.blk s H scope (compEnvC scope cl C X.env) fp) J.blk → PG (X.blk s H scope (compEnvC scope cl C X.env) fp) tg (Tg.rd X.K t))
    (ht : ∀ (s : Shared) (H : Hp) (C : Addr) (cl : List (Str × Addr)) (fp : List Addr), XK2 (X.blk s H scope (compEnvC scope cl C X.env) fp) J.blk → PTs (X.blk s H scope (compEnvC scope cl C X.env) fp) ifs (rdB J.blk ts))
    (he : ∀ (s : Shared) (H : Hp) (C : Addr) (cl : List (Str × Addr)) (fp : List Addr), XK2 (X.blk s H scope (compEnvC scope cl C X.env) fp) J.blk → PE (X.blk s H scope (compEnvC scope cl C X.env) fp) elt (rdE J.blk el)) (hs : ∀ x, foldedSetIterable iter X.env x = pure x := by intro _; rfl) :
    PS X (.Assign [.Name y py] (.ListComp elt [⟨tg, iter, ifs, 0⟩] scope pos) spos) (rdS J (dSet (.nm i) (dLc di t ts el (own.map (·.2))))) :=
  ys_setLc J2 hy hyl hsw hi ok hsl (fun s H C cl fp => hg s H C cl fp (J2.blk _ _ _ _ _)) (fun s H C cl fp => ht s H C cl fp (J2.blk _ _ _ _ _)) (fun s H C cl fp => he s H C cl fp (J2.blk _ _ _ _ _)) hs
end
end Mi
end
section
set_option maxRecDepth 100000
set_option maxHeartbeats 4000000
namespace Mi
open PySem PySem.Spec PyProof.Rows L2
/-! ### what is left behind may be forgotten -/
mutual
def clV (n : Nat) : PV → Bool
  | .tup xs => clVs n xs
  | .ref k => Nat.blt k n
  | .non => true
  | .bl _ => true
  | .int _ => true
  | .str _ => true
  | .fn _ => true
  | .thk => true
def clVs (n : Nat) : List PV → Bool
  | [] => true
  | p :: ps => clV n p && clVs n ps
end
def clKs (n : Nat) : List (Key × PV) → Bool
  | [] => true
  | (_, p) :: ps => clV n p && clKs n ps
def clO (n : Nat) : SO → Bool
  | .lst xs => clVs n xs
  | .dct kvs => clKs n kvs
  | .fz xs => clVs n xs
def clS (n : Nat) (st : Sto) : Bool := st.all (clO n)
def clE (n : Nat) (e : Ex) : Bool := match e.fld with
  | some (_, p) => clV n p
  | none => true
section
variable {W : Wd} {H : Hp} {ρ : Nat → Addr} {n n' : Nat}
mutual
theorem RV.clo : ∀ (p : PV) (v : V), RV W H ρ n p v → clV n p = true
  | .tup xs, _, ⟨_, vs, _, _, h⟩ => RVs.clo xs vs h
  | .ref k, _, ⟨h, _⟩ => Nat.ble_eq_true_of_le h
  | .non, _, _ => rfl
  | .bl _, _, _ => rfl
  | .int _, _, _ => rfl
  | .str _, _, _ => rfl
  | .fn _, _, _ => rfl
  | .thk, _, _ => rfl
theorem RVs.clo : ∀ (ps : List PV) (vs : List V), RVs W H ρ n ps vs → clVs n ps = true
  | [], _, _ => rfl
  | p :: ps, _, ⟨v, r, _, h, t⟩ => Bool.and_eq_true_iff.mpr ⟨RV.clo p v h, RVs.clo ps r t⟩
end
mutual
theorem RV.cut : ∀ (p : PV) (v : V), RV W H ρ n' p v → clV n p = true → RV W H ρ n p v
  | .tup xs, _, ⟨a, vs, e, q, h⟩, c => ⟨a, vs, e, q, RVs.cut xs vs h c⟩
  | .ref k, _, ⟨_, e⟩, c => ⟨Nat.le_of_ble_eq_true c, e⟩
  | .non, _, h, _ => h
  | .bl _, _, h, _ => h
  | .int _, _, h, _ => h
  | .str _, _, h, _ => h
  | .fn _, _, h, _ => h
  | .thk, _, h, _ => h
theorem RVs.cut : ∀ (ps : List PV) (vs : List V), RVs W H ρ n' ps vs → clVs n ps = true → RVs W H ρ n ps vs
  | [], _, h, _ => h
  | p :: ps, _, ⟨v, r, e, h, t⟩, c => ⟨v, r, e, RV.cut p v h (Bool.and_eq_true_iff.mp c).1, RVs.cut ps r t (Bool.and_eq_true_iff.mp c).2⟩
end
theorem RKs.clo : ∀ (ps : List (Key × PV)) (vs : List (Key × V)), RKs W H ρ n ps vs → clKs n ps = true
  | [], _, _ => rfl
  | (k, p) :: ps, _, ⟨v, r, _, h, t⟩ => Bool.and_eq_true_iff.mpr ⟨RV.clo p v h, RKs.clo ps r t⟩
theorem RKs.cut : ∀ (ps : List (Key × PV)) (vs : List (Key × V)), RKs W H ρ n' ps vs → clKs n ps = true → RKs W H ρ n ps vs
  | [], _, h, _ => h
  | (k, p) :: ps, _, ⟨v, r, e, h, t⟩, c => ⟨v, r, e, RV.cut p v h (Bool.and_eq_true_iff.mp c).1, RKs.cut ps r t (Bool.and_eq_true_iff.mp c).2⟩
theorem RO.clo {o : SO} {a : Addr} (h : RO W H ρ n o a) : clO n o = true := by
  cases o with
  | lst xs =>
    obtain ⟨vs, _, h⟩ := h
    exact h.clo
  | dct xs =>
    obtain ⟨vs, _, h⟩ := h
    exact RKs.clo _ _ h
  | fz xs =>
    obtain ⟨vs, _, h⟩ := h
    exact h.clo
theorem RO.cut {o : SO} {a : Addr} (h : RO W H ρ n' o a) (c : clO n o = true) : RO W H ρ n o a := by
  cases o with
  | lst xs =>
    obtain ⟨vs, q, h⟩ := h
    exact ⟨vs, q, RVs.cut _ _ h c⟩
  | dct xs =>
    obtain ⟨vs, q, h⟩ := h
    exact ⟨vs, q, RKs.cut _ _ h c⟩
  | fz xs =>
    obtain ⟨vs, q, h⟩ := h
    exact ⟨vs, q, RVs.cut _ _ h c⟩
theorem RSt.clo {st : Sto} (r : RSt W H ρ st) : clS st.length st = true := by
  unfold clS
  refine List.all_eq_true.mpr fun o ho => ?_
  obtain ⟨i, hi, e⟩ := List.mem_iff_getElem.mp ho
  exact (r.obj i o (by rw [List.getElem?_eq_getElem hi, e])).clo
theorem RSt.cut {s g : Sto} (r : RSt W H ρ (s ++ g)) (c : clS s.length s = true) : RSt W H ρ s := by
  have pre : ∀ (i : Nat) (o : SO), s[i]? = some o → (s ++ g)[i]? = some o := fun i o e => by
    rw [List.getElem?_append_left (List.getElem?_eq_some_iff.mp e).1]
    exact e
  refine ⟨fun i j o u ei ej => r.inj i j o u (pre i o ei) (pre j u ej), fun i o e => ?_, r.tab⟩
  refine (r.obj i o (pre i o e)).cut ?_
  unfold clS at c
  exact List.all_eq_true.mp c o (List.mem_of_getElem? e)
theorem Stp.cut {H' : Hp} {ρ' : Nat → Addr} {s g : Sto} (r : Stp W H ρ n H' ρ' (s ++ g)) (c : clS s.length s = true) (h : n ≤ s.length) : Stp W H ρ n H' ρ' s := ⟨r.rs.cut c, r.ext, r.agr, h⟩
end
/-- r says as much as r', and what r' leaves behind is forgotten -/
def LeR (n : Nat) : Res PV → Res PV → Prop
  | .bad, _ => True
  | .ok v s, r => ∃ g, r = .ok v (s ++ g) ∧ clV s.length v = true ∧ clS s.length s = true ∧ n ≤ s.length
  | .exc e s, r => ∃ g, r = .exc e (s ++ g) ∧ clE s.length e = true ∧ clS s.length s = true ∧ n ≤ s.length
theorem Ref.of {F G : Fn} (h : ∀ (ps : List PV) (st : Sto), clVs st.length ps = true → clS st.length st = true → LeR st.length (F ps st) (G ps st)) : Ref F G := by
  intro W E H ρ st ps vs Q r hp g
  have le := h ps st hp.clo r.clo
  cases e : F ps st with
  | bad =>
    rw [e] at g
    exact g.elim
  | ok v s =>
    rw [e] at g le
    obtain ⟨gs, e2, c1, c2, c3⟩ := le
    rw [e2]
    exact fun H' ρ' x s' hx => g H' ρ' x (s'.cut c2 c3) (RV.cut _ _ hx c1)
  | exc x s =>
    rw [e] at g le
    obtain ⟨gs, e2, c1, c2, c3⟩ := le
    rw [e2]
    refine fun H' ρ' c d s' hx => g H' ρ' c d (s'.cut c2 c3) ⟨hx.1, ?_⟩
    have h2 := hx.2
    unfold clE at c1
    cases ef : x.fld with
    | none =>
      rw [ef] at h2
      exact h2
    | some q =>
      rw [ef] at h2 c1
      obtain ⟨f, p⟩ := q
      obtain ⟨dd, v, a1, a2, a3⟩ := h2
      exact ⟨dd, v, a1, a2, RV.cut _ _ a3 c1⟩
theorem Ref.trans {F G K : Fn} (a : Ref F G) (b : Ref G K) : Ref F K := fun W E H ρ st ps vs Q r hp g => b W E H ρ st ps vs Q r hp (a W E H ρ st ps vs Q r hp g)
/-- forgetting by itself -/
def gcR (n : Nat) (r : Res PV) : Res PV := match r with
  | .ok v s => if (clV n v && clS n (s.take n) && Nat.ble n s.length) = true then .ok v (s.take n) else .ok v s
  | .exc e s => if (clE n e && clS n (s.take n) && Nat.ble n s.length) = true then .exc e (s.take n) else .exc e s
  | .bad => .bad
def gcF (F : Fn) : Fn := fun ps st => gcR st.length (F ps st)
theorem gcF_ref (F : Fn) : Ref (gcF F) F := by
  intro W E H ρ st ps vs Q r hp g
  unfold gcF at g
  cases e : F ps st with
  | bad =>
    rw [e] at g
    exact g
  | ok v s =>
    rw [e] at g
    unfold gcR at g
    dsimp only at g
    split at g
    · rename_i h
      rw [Bool.and_eq_true, Bool.and_eq_true] at h
      obtain ⟨⟨h1, h2⟩, h3⟩ := h
      have hl : (s.take st.length).length = st.length := by
        rw [List.length_take]
        exact Nat.min_eq_left (Nat.le_of_ble_eq_true h3)
      refine fun H' ρ' x s' hx => g H' ρ' x (Stp.cut (g := s.drop st.length) ?_ ?_ ?_) ?_
      · rw [List.take_append_drop]
        exact s'
      · rw [hl]
        exact h2
      · rw [hl]
        exact Nat.le_refl _
      · rw [hl]
        exact RV.cut _ _ hx h1
    · exact g
  | exc x s =>
    rw [e] at g
    unfold gcR at g
    dsimp only at g
    split at g
    · rename_i h
      rw [Bool.and_eq_true, Bool.and_eq_true] at h
      obtain ⟨⟨h1, h2⟩, h3⟩ := h
      have hl : (s.take st.length).length = st.length := by
        rw [List.length_take]
        exact Nat.min_eq_left (Nat.le_of_ble_eq_true h3)
      refine fun H' ρ' c d s' hx => g H' ρ' c d (Stp.cut (g := s.drop st.length) ?_ ?_ ?_) ?_
      · rw [List.take_append_drop]
        exact s'
      · rw [hl]
        exact h2
      · rw [hl]
        exact Nat.le_refl _
      · refine ⟨hx.1, ?_⟩
        have h4 := hx.2
        unfold clE at h1
        rw [hl]
        cases ef : x.fld with
        | none =>
          rw [ef] at h4
          exact h4
        | some q =>
          rw [ef] at h4 h1
          obtain ⟨f, p⟩ := q
          obtain ⟨dd, v, a1, a2, a3⟩ := h4
          exact ⟨dd, v, a1, a2, RV.cut _ _ a3 h1⟩
    · exact g
end Mi
end
section
set_option maxRecDepth 100000
set_option maxHeartbeats 4000000
namespace Mi
open PySem PySem.Spec PyProof.Rows L2
/-! ### steps, told plainly -/
section
variable {α β : Type}
theorem b_ok (a : α) (st : Sto) (f : α → Sto → Res β) : Res.bind (.ok a st) f = f a st := rfl
theorem b_bad (f : α → Sto → Res β) : Res.bind .bad f = .bad := rfl
theorem s_ok (env : Env) (a : α) (st : Sto) (f : α → Sto → RS) : Res.s env (.ok a st) f = f a st := rfl
theorem f_rt (v : PV) (st : Sto) : RS.fin (.rt v st) = .ok v st := rfl
theorem f_nx (env : Env) (st : Sto) : RS.fin (.nx env st) = .ok .non st := rfl
theorem e_len {s : List Nat} (st : Sto) (h : szOk s.length = true) : fLen [.str s] st = .ok (.int s.length) st := by
  show (if szOk s.length = true then _ else _) = _
  rw [if_pos h]
theorem e_le (i j : Int) (st : Sto) : pLe (.int i) (.int j) st = .ok (.bl (decide (i ≤ j))) st := rfl
theorem e_lt (i j : Int) (st : Sto) : pLt (.int i) (.int j) st = .ok (.bl (decide (i < j))) st := rfl
theorem e_ge (i j : Int) (st : Sto) : pGe (.int i) (.int j) st = .ok (.bl (decide (j ≤ i))) st := rfl
theorem e_gt (i j : Int) (st : Sto) : pGt (.int i) (.int j) st = .ok (.bl (decide (j < i))) st := rfl
theorem e_add (i j : Int) (st : Sto) : pAdd (.int i) (.int j) st = .ok (.int (i + j)) st := rfl
theorem e_sub (i j : Int) (st : Sto) : pSub (.int i) (.int j) st = .ok (.int (i - j)) st := rfl
theorem e_mul {i j : Int} (st : Sto) (h : cMul i j = true) : pMul (.int i) (.int j) st = .ok (.int (i * j)) st := by
  show (if cMul i j = true then _ else _) = _
  rw [if_pos h]
theorem e_fdiv {i j : Int} (st : Sto) (h : cDiv i j = true) : pFdiv (.int i) (.int j) st = .ok (.int (i / j)) st := by
  show (if cDiv i j = true then _ else _) = _
  rw [if_pos h]
theorem e_mod {i j : Int} (st : Sto) (h : 0 < j) : pMod (.int i) (.int j) st = .ok (.int (i % j)) st := by
  show (if cPos i j = true then _ else _) = _
  rw [if_pos (show cPos i j = true from decide_eq_true h)]
theorem e_all {k : Nat} {st : Sto} {ys : List PV} {bs : List Bool} (h1 : lstAt st k = some ys) (h2 : blsOf ys = some bs) : fAll [.ref k] st = .ok (.bl (bs.all id)) st := by
  unfold fAll fBls
  dsimp only
  rw [h1]
  dsimp only
  rw [h2]
theorem bls_map (f : α → Bool) : ∀ xs : List α, blsOf (xs.map fun x => .bl (f x)) = some (xs.map f)
  | [] => rfl
  | x :: xs => by
    rw [List.map_cons]
    unfold blsOf
    rw [bls_map f xs]
    rfl
theorem get_add (s r : Sto) (i : Nat) : (s ++ r)[s.length + i]? = r[i]? := by
  rw [List.getElem?_append_right (Nat.le_add_right _ _), Nat.add_sub_cancel_left]
theorem get_end0 (s r : Sto) : (s ++ r)[s.length]? = r[0]? := get_add s r 0
theorem set_add (s r : Sto) (i : Nat) (o : SO) : (s ++ r).set (s.length + i) o = s ++ r.set i o := by
  rw [List.set_append_right _ _ (Nat.le_add_right _ _), Nat.add_sub_cancel_left]
theorem set_end0 (s r : Sto) (o : SO) : (s ++ r).set s.length o = s ++ r.set 0 o := set_add s r 0 o
theorem lst_of {s : Sto} {k : Nat} {xs : List PV} (h : s[k]? = some (.lst xs)) : lstAt s k = some xs := by
  unfold lstAt
  rw [h]
theorem e_lenR {s : Sto} {k : Nat} {xs : List PV} (h : lstAt s k = some xs) : fLen [.ref k] s = .ok (.int xs.length) s := by
  show (match lstAt s k with
    | some ys => Res.ok (PV.int ys.length) s
    | none => .bad) = _
  rw [h]
theorem e_isLst {s : Sto} {k : Nat} {xs : List PV} (h : lstAt s k = some xs) : isLst (.ref k) s = true := by
  show (lstAt s k).isSome = true
  rw [h]
  rfl
theorem e_rep {s : Sto} {k : Nat} {xs : List PV} {n : Int} (h : s[k]? = some (.lst xs)) (hn : (decide (-(2 ^ 63) ≤ n) && decide (n < 2 ^ 63) && szOk (xs.length * n.toNat)) = true) : pMul (.ref k) (.int n) s = .ok (.ref s.length) (s ++ [.lst (List.replicate n.toNat xs).flatten]) := by
  show (match s[k]? with
    | some (.lst xs) => if (decide (-(2 ^ 63) ≤ n) && decide (n < 2 ^ 63) && szOk (xs.length * n.toNat)) = true then Res.ok (PV.ref s.length) (s ++ [SO.lst (List.replicate n.toNat xs).flatten]) else .bad
    | _ => .bad) = _
  rw [h]
  dsimp only
  rw [if_pos hn]
theorem e_extend {s : Sto} {a b : Nat} {xs zs : List PV} (ha : s[a]? = some (.lst xs)) (hb : s[b]? = some (.lst zs)) (hz : szOk (xs.length + zs.length) = true) : mExtend (.ref a) [.ref b] s = .ok .non (s.set a (.lst (xs ++ zs))) := by
  unfold mExtend
  dsimp only
  rw [hb]
  dsimp only
  unfold onLst
  dsimp only
  rw [ha]
  dsimp only
  rw [if_pos hz]
theorem e_ixR {s : Sto} {k : Nat} {xs : List PV} {i : Int} {v : PV} (h : lstAt s k = some xs) (hi : atI xs i = some v) : pIx (.ref k) (.int i) s = .ok v s := by
  show (match lstAt s k with
    | some xs => match atI xs i with
      | some v => Res.ok v s
      | none => .bad
    | none => .bad) = _
  rw [h]
  dsimp only
  rw [hi]
theorem e_ixS {s : Sto} {x : List Nat} {i : Int} {c : Nat} (hz : szOk x.length = true) (hi : atI x i = some c) : pIx (.str x) (.int i) s = .ok (.str [c]) s := by
  show (if szOk x.length = true then (match atI x i with
    | some c => Res.ok (PV.str [c]) s
    | none => .bad) else .bad) = _
  rw [if_pos hz, hi]
theorem e_append {s : Sto} {a : Nat} {xs : List PV} {p : PV} (ha : s[a]? = some (.lst xs)) (hz : xs.length < 16777216) : mAppend (.ref a) [p] s = .ok .non (s.set a (.lst (xs ++ [p]))) := by
  unfold mAppend
  dsimp only
  unfold onLst
  dsimp only
  rw [ha]
  dsimp only
  have hb : Nat.blt xs.length 16777216 = true := Nat.ble_eq_true_of_le hz
  rw [if_pos hb]
theorem lst_end (s : Sto) (xs : List PV) (r : Sto) : lstAt (s ++ .lst xs :: r) s.length = some xs := by
  unfold lstAt
  rw [List.getElem?_append_right (Nat.le_refl _), Nat.sub_self]
  rfl
end
/-! ### comprehensions and loops, told plainly -/
theorem get_end (s : Sto) (a : SO) (r : Sto) : (s ++ a :: r)[s.length]? = some a := by
  rw [List.getElem?_append_right (Nat.le_refl _), Nat.sub_self]
  rfl
theorem set_end (s : Sto) (a b : SO) (r : Sto) : (s ++ a :: r).set s.length b = s ++ b :: r := by
  rw [List.set_append_right _ _ (Nat.le_refl _), Nat.sub_self]
  rfl
/-- elements that leave the store alone -/
theorem lcV_map {i : Nat} {ts : DB} {el : DE} {p : PV → Bool} {h : PV → PV} {own : List Nat} {th : Th} {env : Env} {s : Sto} : ∀ (xs acc : List PV), acc.length + xs.length ≤ 16777216 → (∀ x ∈ xs, ∀ acc', ts th (env.set i (some x)) (s ++ [.lst acc']) = .ok (p x) (s ++ [.lst acc'])) →
    (∀ x ∈ xs, p x = true → ∀ acc', el th (env.set i (some x)) (s ++ [.lst acc']) = .ok (h x) (s ++ [.lst acc'])) →
    lcV (.nm i) ts el own th s.length xs env (s ++ [.lst acc]) = .ok () (s ++ [.lst (acc ++ (xs.filter p).map h)])
  | [], acc, _, _, _ => by
    simp [lcV]
  | x :: xs, acc, hz, ht, he => by
    have h1 := ht x List.mem_cons_self acc
    rw [List.length_cons] at hz
    unfold lcV
    simp only [Tg.set]
    rw [h1]
    dsimp only [Res.bind]
    cases hp : p x with
    | true =>
      rw [he x List.mem_cons_self hp acc]
      dsimp only
      rw [get_end]
      dsimp only
      have hb : Nat.blt acc.length 16777216 = true := Nat.ble_eq_true_of_le (by omega)
      rw [if_pos hb, set_end, lcV_map xs (acc ++ [h x]) (by rw [List.length_append, List.length_singleton]; omega) (fun y hy => ht y (List.mem_cons_of_mem _ hy)) (fun y hy => he y (List.mem_cons_of_mem _ hy)), List.filter_cons_of_pos hp, List.map_cons, List.append_assoc]
      rfl
    | false =>
      dsimp only
      rw [lcV_map xs acc (by omega) (fun y hy => ht y (List.mem_cons_of_mem _ hy)) (fun y hy => he y (List.mem_cons_of_mem _ hy)), List.filter_cons_of_neg (by rw [hp]; decide)]
/-- the same over a list of the store -/
theorem lcL_map {i : Nat} {ts : DB} {el : DE} {p : PV → Bool} {h : PV → PV} {own : List Nat} {th : Th} {env : Env} {s : Sto} {k : Nat} {ys : List PV} (hk : lstAt s k = some ys) : ∀ (xs acc : List PV) (j : Nat) (m : Nat), ys.drop j = xs → xs.length < m → acc.length + xs.length ≤ 16777216 →
    (∀ x ∈ xs, ∀ acc', ts th (env.set i (some x)) (s ++ [.lst acc']) = .ok (p x) (s ++ [.lst acc'])) → (∀ x ∈ xs, p x = true → ∀ acc', el th (env.set i (some x)) (s ++ [.lst acc']) = .ok (h x) (s ++ [.lst acc'])) →
    lcL (.nm i) ts el own th s.length (lstG k) m j env (s ++ [.lst acc]) = .ok () (s ++ [.lst (acc ++ (xs.filter p).map h)]) := by
  have hkl : k < s.length := by
    unfold lstAt at hk
    by_cases hl : k < s.length
    · exact hl
    · rw [List.getElem?_eq_none (Nat.le_of_not_lt hl)] at hk
      cases hk
  have hg : ∀ j acc, lstG k j (s ++ [SO.lst acc]) = some ys[j]? := fun j acc => by
    unfold lstG lstAt
    rw [List.getElem?_append_left hkl]
    unfold lstAt at hk
    rw [hk]
  intro xs
  induction xs with
  | nil =>
    intro acc j m hd hm hz ht he
    cases m with
    | zero => cases hm
    | succ m =>
      unfold lcL
      rw [hg]
      have : ys[j]? = none := List.getElem?_eq_none (List.drop_eq_nil_iff.mp hd)
      rw [this]
      simp
  | cons x xs ih =>
    intro acc j m hd hm hz ht he
    cases m with
    | zero => cases hm
    | succ m =>
      rw [List.length_cons] at hz hm
      obtain ⟨e1, e2⟩ := drop_get hd
      have h1 := ht x List.mem_cons_self acc
      unfold lcL
      rw [hg, e1]
      simp only [Tg.set]
      rw [h1]
      dsimp only [Res.bind]
      cases hp : p x with
      | true =>
        rw [he x List.mem_cons_self hp acc]
        dsimp only
        rw [get_end]
        dsimp only
        have hb : Nat.blt acc.length 16777216 = true := Nat.ble_eq_true_of_le (by omega)
        rw [if_pos hb, set_end, ih (acc ++ [h x]) (j + 1) m e2 (by omega) (by rw [List.length_append, List.length_singleton]; omega) (fun y hy => ht y (List.mem_cons_of_mem _ hy)) (fun y hy => he y (List.mem_cons_of_mem _ hy)), List.filter_cons_of_pos hp, List.map_cons, List.append_assoc]
        rfl
      | false =>
        dsimp only
        rw [ih acc (j + 1) m e2 (by omega) (by omega) (fun y hy => ht y (List.mem_cons_of_mem _ hy)) (fun y hy => he y (List.mem_cons_of_mem _ hy)), List.filter_cons_of_neg (by rw [hp]; decide)]
/-- a comprehension over values -/
theorem dLc_vals {it : DI} {i : Nat} {ts : DB} {el : DE} {p : PV → Bool} {h : PV → PV} {own : List Nat} {th : Th} {env : Env} {st s : Sto} {xs : List PV} (hit : it th env st = .ok (.vals xs) s) (hz : xs.length ≤ 16777216) (ht : ∀ x ∈ xs, ∀ acc', ts th ((wipeE env own).set i (some x)) (s ++ [.lst acc']) = .ok (p x) (s ++ [.lst acc']))
    (he : ∀ x ∈ xs, p x = true → ∀ acc', el th ((wipeE env own).set i (some x)) (s ++ [.lst acc']) = .ok (h x) (s ++ [.lst acc'])) : dLc it (.nm i) ts el own th env st = .ok (.ref s.length) (s ++ [.lst ((xs.filter p).map h)]) := by
  unfold dLc
  rw [hit]
  dsimp only [Res.bind]
  rw [lcV_map xs [] (by simpa using hz) ht he]
  rfl
/-- a comprehension over a list of the store -/
theorem dLc_list {it : DI} {i : Nat} {ts : DB} {el : DE} {p : PV → Bool} {h : PV → PV} {own : List Nat} {th : Th} {env : Env} {st s : Sto} {xs : List PV} {k m : Nat} (hit : it th env st = .ok (.dyn m (lstG k)) s) (hk : lstAt s k = some xs) (hm : xs.length < m) (hz : xs.length ≤ 16777216)
    (ht : ∀ x ∈ xs, ∀ acc', ts th ((wipeE env own).set i (some x)) (s ++ [.lst acc']) = .ok (p x) (s ++ [.lst acc']))
    (he : ∀ x ∈ xs, p x = true → ∀ acc', el th ((wipeE env own).set i (some x)) (s ++ [.lst acc']) = .ok (h x) (s ++ [.lst acc'])) : dLc it (.nm i) ts el own th env st = .ok (.ref s.length) (s ++ [.lst ((xs.filter p).map h)]) := by
  unfold dLc
  rw [hit]
  dsimp only [Res.bind]
  rw [lcL_map hk xs [] 0 m rfl hm (by simpa using hz) ht he]
  rfl
/-- elements that change the store: what is kept true of it -/
theorem lcV_inv {B i D : Nat} {el : DE} {own : List Nat} {th : Th} {env : Env} {I : Nat → Sto → Prop} {P : PV → Prop} (hset : ∀ n st acc, I n st → I n (st.set D (.lst acc))) : ∀ (xs : List PV), (∀ x ∈ xs, ∀ n st acc, n < B → I n st → st[D]? = some (.lst acc) → ∃ y st', el th (env.set i (some x)) st = .ok y st' ∧ P y ∧ I (n + 1) st' ∧ st'[D]? = some (.lst acc)) →
    ∀ (st : Sto) (acc : List PV) (n : Nat), n + xs.length ≤ B → I n st → st[D]? = some (.lst acc) → acc.length + xs.length ≤ 16777216 → ∃ ys st', lcV (.nm i) dYes el own th D xs env st = .ok () st' ∧ st'[D]? = some (.lst (acc ++ ys)) ∧ ys.length = xs.length ∧ (∀ y ∈ ys, P y) ∧ I (n + xs.length) st'
  | [], _, st, acc, n, _, hI, hD, _ => ⟨[], st, rfl, (by rw [List.append_nil]; exact hD), rfl, (fun y hy => nomatch hy), hI⟩
  | x :: xs, he, st, acc, n, hB, hI, hD, hz => by
    rw [List.length_cons] at hz hB
    obtain ⟨y, st1, e1, p1, i1, d1⟩ := he x List.mem_cons_self n st acc (by omega) hI hD
    have hl : D < st1.length := (List.getElem?_eq_some_iff.mp d1).1
    obtain ⟨ys, st2, e2, d2, l2, p2, i2⟩ := lcV_inv hset xs (fun z hz => he z (List.mem_cons_of_mem _ hz)) (st1.set D (.lst (acc ++ [y]))) (acc ++ [y]) (n + 1) (by omega) (hset _ _ _ i1) (List.getElem?_set_self hl) (by rw [List.length_append, List.length_singleton]; omega)
    refine ⟨y :: ys, st2, ?_, ?_, by rw [List.length_cons, List.length_cons, l2], fun z hz => ?_, ?_⟩
    · unfold lcV
      simp only [Tg.set, dYes, Res.bind]
      rw [e1]
      dsimp only [Res.bind]
      rw [d1]
      dsimp only
      have hb : Nat.blt acc.length 16777216 = true := Nat.ble_eq_true_of_le (by omega)
      rw [if_pos hb]
      exact e2
    · rw [d2, List.append_assoc]
      rfl
    · rcases List.mem_cons.mp hz with rfl | hz
      · exact p1
      · exact p2 z hz
    · rw [List.length_cons, Nat.add_comm xs.length 1, ← Nat.add_assoc]
      exact i2
/-- a loop over values: what is kept true -/
theorem forV_inv {B : Nat} {t : Tg} {body : DS} {th : Th} {I : Nat → Env → Sto → Prop} : ∀ (xs : List PV), (∀ x ∈ xs, ∀ n env st, n < B → I n env st → ∃ env1, t.set x env = some env1 ∧ ∃ env2 st2, body th env1 st = .nx env2 st2 ∧ I (n + 1) env2 st2) →
    ∀ (n : Nat) (env : Env) (st : Sto), n + xs.length ≤ B → I n env st → ∃ env' st', forV t body th xs env st = .nx env' st' ∧ I (n + xs.length) env' st'
  | [], _, n, env, st, _, h => ⟨env, st, rfl, h⟩
  | x :: xs, hb, n, env, st, hB, h => by
    rw [List.length_cons] at hB
    obtain ⟨env1, e1, env2, st2, e2, h2⟩ := hb x List.mem_cons_self n env st (by omega) h
    obtain ⟨env3, st3, e3, h3⟩ := forV_inv xs (fun y hy => hb y (List.mem_cons_of_mem _ hy)) (n + 1) env2 st2 (by omega) h2
    refine ⟨env3, st3, ?_, ?_⟩
    · unfold forV
      rw [e1]
      dsimp only
      rw [e2]
      exact e3
    · rw [List.length_cons, Nat.add_comm xs.length 1, ← Nat.add_assoc]
      exact h3
/-- a loop over a list of the store that stays as it is -/
theorem forL_inv {t : Tg} {body : DS} {th : Th} {I : Nat → Env → Sto → Prop} {k : Nat} {ys : List PV} (hk : ∀ n env st, I n env st → lstAt st k = some ys) (hb : ∀ x ∈ ys, ∀ n env st, I n env st → ∃ env1, t.set x env = some env1 ∧ ∃ env2 st2, body th env1 st = .nx env2 st2 ∧ I (n + 1) env2 st2) :
    ∀ (xs : List PV) (j m n : Nat) (env : Env) (st : Sto), ys.drop j = xs → xs.length < m → I n env st → ∃ env' st', forL t body th (lstG k) m j env st = .nx env' st' ∧ I (n + xs.length) env' st' := by
  intro xs
  induction xs with
  | nil =>
    intro j m n env st hd hm h
    cases m with
    | zero => cases hm
    | succ m =>
      refine ⟨env, st, ?_, h⟩
      unfold forL lstG
      rw [hk n env st h]
      dsimp only
      rw [List.getElem?_eq_none (List.drop_eq_nil_iff.mp hd)]
  | cons x xs ih =>
    intro j m n env st hd hm h
    cases m with
    | zero => cases hm
    | succ m =>
      rw [List.length_cons] at hm
      obtain ⟨d1, d2⟩ := drop_get hd
      obtain ⟨env1, e1, env2, st2, e2, h2⟩ := hb x (List.mem_of_getElem? d1) n env st h
      obtain ⟨env3, st3, e3, h3⟩ := ih (j + 1) m (n + 1) env2 st2 d2 (by omega) h2
      refine ⟨env3, st3, ?_, ?_⟩
      · unfold forL lstG
        rw [hk n env st h]
        dsimp only
        rw [d1]
        dsimp only
        rw [e1]
        dsimp only
        rw [e2]
        exact e3
      · rw [List.length_cons, Nat.add_comm xs.length 1, ← Nat.add_assoc]
        exact h3
end Mi
end
section
set_option maxRecDepth 100000
set_option maxHeartbeats 4000000
/-! MiLaw: what the plain laws share (first proved for k01) -/
namespace Mi
open PySem PySem.Spec PyProof.Rows L2
theorem e_lst {xs : List PV} (h : szOk xs.length = true) (st : Sto) : fLst xs st = .ok (.ref st.length) (st ++ [.lst xs]) := by
  unfold fLst
  rw [if_pos h]
theorem e_tup {xs : List PV} (h : szOk xs.length = true) (st : Sto) : fTup xs st = .ok (.tup xs) st := by
  unfold fTup
  rw [if_pos h]
theorem e_join {a : List Nat} {k : Nat} {s : Sto} {ys : List PV} {ss : List (List Nat)} (h1 : lstAt s k = some ys) (h2 : strsOf ys = some ss) (h3 : szOk ((ss.map List.length).sum + ss.length * a.length) = true) : mJoin (.str a) [.ref k] s = .ok (.str (glue a ss)) s := by
  unfold mJoin
  dsimp only [seqOf]
  rw [h1]
  dsimp only
  rw [h2]
  dsimp only
  rw [if_pos h3]
theorem e_setL {s : Sto} {k m : Nat} {j : Int} {xs : List PV} {v : PV} (h : s[k]? = some (.lst xs)) (hm : ixN xs.length j = some m) : pSetL (.ref k) (.int j) v s = some (s.set k (.lst (xs.set m v))) := by
  unfold pSetL
  dsimp only
  rw [h]
  dsimp only
  rw [hm]
theorem e_ixT {xs : List PV} {i : Int} {v : PV} (s : Sto) (hi : atI xs i = some v) : pIx (.tup xs) (.int i) s = .ok v s := by
  show (match atI xs i with
    | some v => Res.ok v s
    | none => .bad) = _
  rw [hi]
theorem e_addS {a b : List Nat} (st : Sto) (h : szOk (a.length + b.length) = true) : pAdd (.str a) (.str b) st = .ok (.str (a ++ b)) st := by
  show (if szOk (a.length + b.length) = true then _ else _) = _
  rw [if_pos h]
theorem ne_str (x y : List Nat) (st : Sto) : pNe (.str x) (.str y) st = .ok (.bl (!decide (x = y))) st := rfl
theorem e_str0 {f : Str → Str} {x : List Nat} (st : Sto) (h : szOk x.length = true) : mStr0 f (.str x) [] st = .ok (.str (ofS (f (toS x)))) st := by
  show (if szOk x.length = true then _ else _) = _
  rw [if_pos h]
def Fz (st : Sto) : Prop := ∃ ns : List Int, st[0]? = some (.fz (ns.map .int))
theorem Fz.ne0 {st : Sto} {k : Nat} {xs : List PV} (h : Fz st) (hk : st[k]? = some (.lst xs)) : k ≠ 0 := by
  rintro rfl
  obtain ⟨ns, h⟩ := h
  rw [h] at hk
  cases hk
theorem Fz.set {st : Sto} {k : Nat} {o : SO} (h : Fz st) (hk : k ≠ 0) : Fz (st.set k o) := by
  obtain ⟨ns, h⟩ := h
  exact ⟨ns, by rw [List.getElem?_set_ne hk]; exact h⟩
theorem Fz.app {st g : Sto} (h : Fz st) : Fz (st ++ g) := by
  obtain ⟨ns, h⟩ := h
  exact ⟨ns, by rw [List.getElem?_append_left (List.getElem?_eq_some_iff.mp h).1]; exact h⟩
def Well (w n : Nat) (st : Sto) : Prop := ∃ a b c : Int, st[w]? = some (.lst [.int a, .int b, .int c]) ∧ 0 ≤ c ∧ c ≤ n ∧ Fz st
def Same (w : Nat) (st st' : Sto) : Prop := st'.length = st.length ∧ ∀ i, i ≠ w → st'[i]? = st[i]?
theorem Same.set {w : Nat} {st : Sto} {o : SO} : Same w st (st.set w o) := ⟨List.length_set .., fun i h => List.getElem?_set_ne (Ne.symm h)⟩
theorem Same.trans {w : Nat} {a b c : Sto} (h : Same w a b) (k : Same w b c) : Same w a c := ⟨k.1.trans h.1, fun i hi => (k.2 i hi).trans (h.2 i hi)⟩
theorem log_small {x : Int} {k : Nat} (h : x.natAbs ≤ 2 ^ k) : x.natAbs.log2 ≤ k := by
  by_cases h0 : x.natAbs = 0
  · rw [h0]
    exact Nat.zero_le _
  · rw [← Nat.lt_succ_iff, Nat.log2_lt h0]
    exact Nat.lt_of_le_of_lt h (Nat.pow_lt_pow_right (by decide) (Nat.lt_succ_self _))
theorem cMul_small {x y : Int} {k l : Nat} (h1 : x.natAbs ≤ 2 ^ k) (h2 : y.natAbs ≤ 2 ^ l) (h : k + l < 1000000) : cMul x y = true := by
  unfold cMul
  refine decide_eq_true ?_
  have a := log_small h1
  have b := log_small h2
  omega
theorem e_int (i : Int) (st : Sto) : fInt [.int i] st = .ok (.int i) st := rfl
theorem Well.fz {w n : Nat} {st : Sto} (h : Well w n st) : Fz st := by
  obtain ⟨a, b, c, _, _, _, hz⟩ := h
  exact hz
theorem Well.set {w n D : Nat} {st : Sto} {o : SO} (h : Well w n st) (hD : D ≠ w) (h0 : D ≠ 0) : Well w n (st.set D o) := by
  obtain ⟨a, b, c, hg, h1, h2, hz⟩ := h
  exact ⟨a, b, c, by rw [List.getElem?_set_ne hD]; exact hg, h1, h2, hz.set h0⟩
theorem Well.app {w n : Nat} {st g : Sto} (h : Well w n st) : Well w n (st ++ g) := by
  obtain ⟨a, b, c, hg, h1, h2, hz⟩ := h
  exact ⟨a, b, c, by rw [List.getElem?_append_left (List.getElem?_eq_some_iff.mp hg).1]; exact hg, h1, h2, hz.app⟩
theorem Well.mono {w n m : Nat} {st : Sto} (h : Well w n st) (hm : n ≤ m) : Well w m st := by
  obtain ⟨a, b, c, hg, h1, h2, hz⟩ := h
  exact ⟨a, b, c, hg, h1, by omega, hz⟩
theorem Well.lt {w n : Nat} {st : Sto} (h : Well w n st) : w < st.length := by
  obtain ⟨a, b, c, hg, _⟩ := h
  exact (List.getElem?_eq_some_iff.mp hg).1
theorem get_app {st g : Sto} {i : Nat} {o : SO} (h : st[i]? = some o) : (st ++ g)[i]? = some o := by
  rw [List.getElem?_append_left (List.getElem?_eq_some_iff.mp h).1]
  exact h
theorem get_lt {st : Sto} {i : Nat} {o : SO} (h : st[i]? = some o) : i < st.length := (List.getElem?_eq_some_iff.mp h).1
theorem okI_small {j : Int} (h : -1000 ≤ j) (h2 : j ≤ 1000) : okI j = true := by
  unfold okI
  rw [decide_eq_true (by omega), decide_eq_true (by omega)]
  rfl
theorem e_rng1 {j : Int} (st : Sto) (h : okI j = true) : fRng1 [.int j] st = .ok (.vals (rngV 0 1 j.toNat)) st := by
  show (if okI j = true then _ else _) = _
  rw [if_pos h]
theorem strs_self : ∀ ss : List (List Nat), strsOf (ss.map PV.str) = some ss
  | [] => rfl
  | x :: r => by
    rw [List.map_cons]
    unfold strsOf
    rw [strs_self r]
theorem it_list {s : Sto} {k : Nat} {xs : List PV} (h : lstAt s k = some xs) : itOf (.ref k) s = .ok (.dyn (xs.length + 1) (lstG k)) s := by
  unfold itOf
  dsimp only
  rw [h]
theorem ints_self : ∀ ns : List Int, intsOf (ns.map PV.int) = some ns
  | [] => rfl
  | n :: r => by
    rw [List.map_cons]
    unfold intsOf
    rw [ints_self r]
theorem e_abs (i : Int) (st : Sto) : fAbs [.int i] st = .ok (.int (if i < 0 then -i else i)) st := rfl
theorem e_intb (b : Bool) (st : Sto) : fInt [.bl b] st = .ok (.int (if b then 1 else 0)) st := rfl
theorem e_max2 (i j : Int) (st : Sto) : fMax [.int i, .int j] st = .ok (.int (if j > i then j else i)) st := rfl
theorem e_min2 (i j : Int) (st : Sto) : fMin [.int i, .int j] st = .ok (.int (if j < i then j else i)) st := rfl
theorem mk_seq {n : Nat} {A B : DS} {ps : List PV} {env : Mi.Env} {st s s' : Sto} {r : PV} (h1 : A noTh (env0 n ps) st = .nx env s) (h2 : B noTh env s = .rt r s') : mkF n (dSeq A B) ps st = .ok r s' := by
  unfold mkF dSeq
  rw [h1]
  dsimp only
  rw [h2]
  rfl
theorem cut1 (ns : List Int) : ∃ ms : List Int, cutP (ns.map PV.int) none (some 1) = ms.map PV.int := by
  unfold cutP
  rw [← List.map_drop, ← List.map_take]
  exact ⟨_, rfl⟩
theorem eq_lst {s : Sto} {j k : Nat} {xs : List PV} {ds : List PyData} (h : lstAt s j = some xs) (h2 : lstAt s k = some xs) (hd : mapO (dat 59 s) xs = some ds) (hv : PyData.eqv (.list ds) (.list ds) = true) : pNe (.ref j) (.ref k) s = .ok (.bl false) s := by
  have d : ∀ {i : Nat}, lstAt s i = some xs → dat 60 s (.ref i) = some (.list ds) := fun {i} h => by
    show (match lstAt s i with
      | some xs => match mapO (dat 59 s) xs with
        | some ds => some (PyData.list ds)
        | none => none
      | none => none) = _
    rw [h]
    dsimp only
    rw [hd]
  have e : pEqB (.ref j) (.ref k) s = some true := by
    show (match dat 60 s (.ref j) with
      | some d => match dat 60 s (.ref k) with
        | some e => some (PyData.eqv d e)
        | none => none
      | none => none) = _
    rw [d h, d h2]
    dsimp only
    rw [hv]
  unfold pNe
  rw [e]
  rfl
theorem e_addL {s : Sto} {j k : Nat} {xs ys : List PV} (h : s[j]? = some (.lst xs)) (h2 : s[k]? = some (.lst ys)) (hz : szOk (xs.length + ys.length) = true) : pAdd (.ref j) (.ref k) s = .ok (.ref s.length) (s ++ [.lst (xs ++ ys)]) := by
  unfold pAdd
  dsimp only
  rw [h]
  dsimp only
  rw [h2]
  dsimp only
  rw [if_pos hz]
theorem rng_mem {n : Nat} {x : PV} (h : x ∈ rngV 0 1 n) : ∃ i : Nat, x = .int i ∧ i < n := by
  obtain ⟨i, hi⟩ := List.getElem?_of_mem h
  obtain ⟨h1, h2⟩ := rngV_get 1 n 0 i x hi
  exact ⟨i, by rw [h2]; congr 1; omega, h1⟩
theorem sq {A B : DS} {th : Th} {env env2 : Mi.Env} {st st2 : Sto} (h : A th env st = .nx env2 st2) : dSeq A B th env st = B th env2 st2 := by
  unfold dSeq
  rw [h]
end Mi
end
section
set_option maxRecDepth 100000
set_option maxHeartbeats 2000000
/-! MiCut: a part of a text, by its signs -/
namespace Mi
open PySem PySem.Spec PyProof.Rows L2
theorem sl_in {x : List Nat} {i j : Nat} (h : i ≤ j) (h2 : j ≤ x.length) : ofS (Txt.slice (toS x) (some i) (some j)) = (x.drop i).take (j - i) := by
  have e := beq_iff_eq.mp (PyProof.Rows.slice_closes (x := toS x) (i := (i : Int)) (j := (j : Int)) ⟨by omega, by omega, by
    show (j : Int) ≤ ((x.toArray.toList).length : Int)
    simp
    omega⟩)
  rw [e]
  show ((x.drop (i : Int).toNat).take ((j : Int) - (i : Int)).toNat) = _
  have e1 : (i : Int).toNat = i := by omega
  have e2 : ((j : Int) - (i : Int)).toNat = j - i := by omega
  rw [e1, e2]
theorem sl_any {x : List Nat} {i j : Nat} (h : i ≤ j) (h2 : i ≤ x.length) : ofS (Txt.slice (toS x) (some i) (some j)) = (x.drop i).take (j - i) := by
  by_cases hj : j ≤ x.length
  · exact sl_in h hj
  · have e : Txt.slice (toS x) (some (i : Int)) (some (j : Int)) = Txt.slice (toS x) (some (i : Int)) (some (x.length : Int)) := by
      unfold Txt.slice
      have hl : (toS x).length = x.length := str_len x
      rw [hl, SX.idx_hi (by omega)]
    rw [e, sl_in h2 (Nat.le_refl _), List.take_of_length_le (by rw [List.length_drop]; omega), List.take_of_length_le (by rw [List.length_drop]; omega)]
theorem e_cut {x : List Nat} {i j : Nat} (h : i ≤ j) (h2 : i ≤ x.length) (hz : szOk x.length = true) (st : Sto) : fSl (.str x) (some (i : Int)) (some (j : Int)) st = .ok (.str ((x.drop i).take (j - i))) st := by
  unfold fSl
  dsimp only
  rw [if_pos hz, sl_any h h2]
theorem ofS_to (x : List Nat) : ofS (toS x) = x := by
  show x.toArray.toList = x
  simp
theorem e_cutTo {x : List Nat} {j : Nat} (hz : szOk x.length = true) (st : Sto) : fSl (.str x) none (some (j : Int)) st = .ok (.str (x.take j)) st := by
  unfold fSl
  dsimp only
  rw [if_pos hz, show Txt.slice (toS x) none (some (j : Int)) = toS (x.take (j : Int).toNat) from SX.slice_to (a := x) (by omega), ofS_to]
  rfl
theorem e_cutFr {x : List Nat} {i : Nat} (hz : szOk x.length = true) (st : Sto) : fSl (.str x) (some (i : Int)) none st = .ok (.str (x.drop i)) st := by
  unfold fSl
  dsimp only
  rw [if_pos hz, show Txt.slice (toS x) (some (i : Int)) none = toS (x.drop (i : Int).toNat) from SX.slice_from (a := x) (by omega), ofS_to]
  rfl
theorem e_cutBut {x : List Nat} (h : x ≠ []) (hz : szOk x.length = true) (st : Sto) : fSl (.str x) none (some (-1)) st = .ok (.str (x.take (x.length - 1))) st := by
  unfold fSl
  dsimp only
  rw [if_pos hz, show Txt.slice (toS x) none (some (-1)) = toS (x.take (x.length - 1)) from SX.slice_butlast (a := x) h, ofS_to]
theorem idx_m1 {l : Option Int} {n : Nat} (h : 0 < n) : Builtin.Str.strSliceIndices l (some (-1)) 1 n = Builtin.Str.strSliceIndices l (some ((n - 1 : Nat) : Int)) 1 n := by
  have h1 : (-1 : Int) < 0 := by decide
  have h2 : (1 : Int) > 0 := by decide
  have h3 : ¬ (((n - 1 : Nat) : Int) < 0) := by omega
  have h4 : -1 + (n : Int) = ((n - 1 : Nat) : Int) := by omega
  simp only [Builtin.Str.strSliceIndices, h1, h2, h3, if_true, if_false, h4]
/-- x[1:-1] -/
theorem e_inner {x : List Nat} (h : 2 ≤ x.length) (hz : szOk x.length = true) (st : Sto) : fSl (.str x) (some 1) (some (-1)) st = .ok (.str ((x.drop 1).take (x.length - 2))) st := by
  have e := e_cut (x := x) (i := 1) (j := x.length - 1) (by omega) (by omega) hz st
  rw [show x.length - 1 - 1 = x.length - 2 by omega] at e
  rw [← e]
  unfold fSl
  dsimp only
  rw [if_pos hz, if_pos hz]
  have es : Txt.slice (toS x) (some 1) (some (-1)) = Txt.slice (toS x) (some ((1 : Nat) : Int)) (some ((x.length - 1 : Nat) : Int)) := by
    unfold Txt.slice
    rw [str_len, idx_m1 (by omega)]
    rfl
  rw [es]
end Mi
end
section
set_option maxRecDepth 100000
set_option maxHeartbeats 2000000
/-! MiFind: the first place of a sign; forgetting, by bounds -/
namespace Mi
open PySem PySem.Spec PyProof.Rows L2
/-- the first place of a sign in what is left of a text from place i on -/
def firstC (c : Nat) : List Nat → Nat → Option Nat
  | [], _ => none
  | a :: r, i => if a = c then some i else firstC c r (i + 1)
theorem occ_full (s sub : Str) (hi limit : Nat) : ∀ (l : List Nat) (st : Array Nat × Nat), limit ≤ st.fst.size → (forIn (m := Id) l st (StrLaws.occBody s sub hi limit)).run.fst = st.fst
  | [], st, h => rfl
  | a :: l, st, h => by
    rw [List.forIn_cons]
    unfold StrLaws.occBody
    rw [if_neg (fun c => by have := c.1.1.1; omega)]
    exact occ_full s sub hi limit l _ h
theorem sub_one {x : List Nat} {c j a : Nat} (h : x[j]? = some a) : Builtin.Str.subAt (toS x) (toS [c]) j = decide (a = c) := by
  have hj : j < x.length := (List.getElem?_eq_some_iff.mp h).1
  have e : (toS x).cps.extract j (j + (toS [c]).length) = #[a] := by
    show x.toArray.extract j (j + 1) = #[a]
    rw [List.extract_toArray]
    congr 1
    rw [List.extract_eq_take_drop, List.drop_eq_getElem_cons hj]
    have : j + 1 - j = 1 := by omega
    rw [this, List.take_succ_cons, List.take_zero, (List.getElem?_eq_some_iff.mp h).2]
  unfold Builtin.Str.subAt
  rw [e]
  show (#[a] == #[c]) = _
  by_cases k : a = c
  · rw [k]
    simp
  · rw [decide_eq_false k]
    simp [k]
theorem occ_from {x : List Nat} {c : Nat} : ∀ (r : List Nat) (j free : Nat), x.drop j = r → free ≤ j → j ≤ x.length → (forIn (m := Id) (List.range' j (x.length + 1 - j)) ((#[] : Array Nat), free) (StrLaws.occBody (toS x) (toS [c]) x.length 1)).run.fst.toList = match firstC c r j with
      | some k => [k]
      | none => []
  | [], j, free, h, hf, hj => by
    have hl : j = x.length := drop_nil h hj
    have e : x.length + 1 - j = 1 := by omega
    rw [e]
    show (forIn (m := Id) [j] ((#[] : Array Nat), free) (StrLaws.occBody (toS x) (toS [c]) x.length 1)).run.fst.toList = []
    rw [List.forIn_cons]
    unfold StrLaws.occBody
    rw [if_neg (fun z => by
      have := z.1.2
      have h1 : (toS [c]).length = 1 := rfl
      rw [h1] at this
      omega)]
    rfl
  | a :: r, j, free, h, hf, hj => by
    obtain ⟨e1, e2⟩ := drop_get h
    have hl : j < x.length := (List.getElem?_eq_some_iff.mp e1).1
    have e : x.length + 1 - j = (x.length + 1 - (j + 1)) + 1 := by omega
    rw [e, List.range'_succ, List.forIn_cons]
    unfold firstC
    have hs := sub_one (c := c) e1
    by_cases k : a = c
    · rw [if_pos k]
      rw [decide_eq_true k] at hs
      rw [show StrLaws.occBody (toS x) (toS [c]) x.length 1 j ((#[] : Array Nat), free) = pure (ForInStep.yield ((#[] : Array Nat).push j, j + (toS [c]).length)) by
        unfold StrLaws.occBody
        rw [if_pos ⟨⟨⟨by simp, hf⟩, by show j + 1 ≤ x.length; omega⟩, hs⟩]]
      show (forIn (m := Id) (List.range' (j + 1) (x.length + 1 - (j + 1))) ((#[] : Array Nat).push j, j + (toS [c]).length) (StrLaws.occBody (toS x) (toS [c]) x.length 1)).run.fst.toList = _
      rw [occ_full _ _ _ _ _ _ (by simp)]
      rfl
    · rw [if_neg k]
      rw [decide_eq_false k] at hs
      rw [show StrLaws.occBody (toS x) (toS [c]) x.length 1 j ((#[] : Array Nat), free) = pure (ForInStep.yield ((#[] : Array Nat), free)) by
        unfold StrLaws.occBody
        rw [if_neg (fun z => by rw [hs] at z; cases z.2)]]
      exact occ_from r (j + 1) free e2 (by omega) (by omega)
theorem occ_one {x : List Nat} {c i : Nat} (h : i ≤ x.length) : Builtin.Str.occurrences (toS x) (toS [c]) i x.length 1 = match firstC c (x.drop i) i with
      | some k => [k]
      | none => [] := by
  rw [StrLaws.occ_eq]
  exact occ_from _ i i rfl (Nat.le_refl _) h
/-- the first place of a sign from place i on, or -1 -/
def nextC (x : List Nat) (c i : Nat) : Int := match firstC c (x.drop i) i with
  | some k => k
  | none => -1
theorem e_find (x : List Nat) (c : Nat) (st : Sto) : mFind (.str x) [.str [c]] st = .ok (.int (nextC x c 0)) st := by
  unfold mFind
  dsimp only
  have e : Txt.find (toS x) (toS [c]) = nextC x c 0 := by
    unfold Txt.find nextC
    rw [str_len, occ_one (Nat.zero_le _)]
    cases firstC c (x.drop 0) 0 <;> rfl
  rw [e]
theorem e_find3 {x : List Nat} {i : Nat} (c : Nat) (h : i ≤ x.length) (st : Sto) : mFind3 (.str x) [.str [c], .int (i : Int)] st = .ok (.int (nextC x c i)) st := by
  unfold mFind3
  dsimp only
  have e : Txt.find3 (toS x) (toS [c]) (i : Int) = nextC x c i := by
    unfold Txt.find3 nextC
    have hf : fromIndex (toS x).length (i : Int) = i := by
      unfold fromIndex
      rw [if_neg (by omega)]
      omega
    rw [hf, str_len, occ_one h]
    cases firstC c (x.drop i) i <;> rfl
  rw [e]
theorem firstC_some {c k : Nat} {x : List Nat} : ∀ (r : List Nat) (i : Nat), x.drop i = r → firstC c r i = some k → i ≤ k ∧ x[k]? = some c ∧ ∀ j, i ≤ j → j < k → x[j]? ≠ some c
  | [], _, _, h => by cases h
  | a :: r, i, hd, h => by
    obtain ⟨e1, e2⟩ := drop_get hd
    unfold firstC at h
    by_cases ha : a = c
    · rw [if_pos ha] at h
      cases h
      exact ⟨Nat.le_refl _, by rw [e1, ha], fun j h1 h2 => by omega⟩
    · rw [if_neg ha] at h
      obtain ⟨h1, h2, h3⟩ := firstC_some r (i + 1) e2 h
      refine ⟨by omega, h2, fun j k1 k2 => ?_⟩
      by_cases hj : j = i
      · rw [hj, e1]
        intro z
        cases z
        exact ha rfl
      · exact h3 j (by omega) k2
theorem firstC_none {c : Nat} {x : List Nat} : ∀ (r : List Nat) (i : Nat), x.drop i = r → firstC c r i = none → ∀ j, i ≤ j → x[j]? ≠ some c
  | [], i, hd, _, j, hj => by
    rw [List.getElem?_eq_none (by have := List.drop_eq_nil_iff.mp hd; omega)]
    intro z
    cases z
  | a :: r, i, hd, h, j, hj => by
    obtain ⟨e1, e2⟩ := drop_get hd
    unfold firstC at h
    by_cases ha : a = c
    · rw [if_pos ha] at h
      cases h
    · rw [if_neg ha] at h
      by_cases hij : j = i
      · rw [hij, e1]
        intro z
        cases z
        exact ha rfl
      · exact firstC_none r (i + 1) e2 h j (by omega)
/-! ### bounds may be raised -/
mutual
theorem clV_mono {n m : Nat} (h : n ≤ m) : ∀ p : PV, clV n p = true → clV m p = true
  | .tup xs, c => clVs_mono h xs c
  | .ref k, c => Nat.ble_eq_true_of_le (Nat.le_trans (Nat.le_of_ble_eq_true c) h)
  | .non, _ => rfl
  | .bl _, _ => rfl
  | .int _, _ => rfl
  | .str _, _ => rfl
  | .fn _, _ => rfl
  | .thk, _ => rfl
theorem clVs_mono {n m : Nat} (h : n ≤ m) : ∀ ps : List PV, clVs n ps = true → clVs m ps = true
  | [], _ => rfl
  | p :: ps, c => Bool.and_eq_true_iff.mpr ⟨clV_mono h p (Bool.and_eq_true_iff.mp c).1, clVs_mono h ps (Bool.and_eq_true_iff.mp c).2⟩
end
theorem clKs_mono {n m : Nat} (h : n ≤ m) : ∀ ps : List (Key × PV), clKs n ps = true → clKs m ps = true
  | [], _ => rfl
  | (k, p) :: ps, c => Bool.and_eq_true_iff.mpr ⟨clV_mono h p (Bool.and_eq_true_iff.mp c).1, clKs_mono h ps (Bool.and_eq_true_iff.mp c).2⟩
theorem clO_mono {n m : Nat} (h : n ≤ m) (o : SO) (c : clO n o = true) : clO m o = true := by
  cases o with
  | lst xs => exact clVs_mono h xs c
  | dct xs => exact clKs_mono h xs c
  | fz xs => exact clVs_mono h xs c
theorem clS_mono {n m : Nat} (h : n ≤ m) {st : Sto} (c : clS n st = true) : clS m st = true := by
  unfold clS at c ⊢
  exact List.all_eq_true.mpr fun o ho => clO_mono h o (List.all_eq_true.mp c o ho)
theorem clS_add {st : Sto} {xs : List PV} (c : clS st.length st = true) (h : clVs (st.length + 1) xs = true) : clS (st ++ [SO.lst xs]).length (st ++ [SO.lst xs]) = true := by
  have hl : (st ++ [SO.lst xs]).length = st.length + 1 := by simp
  rw [hl]
  have h1 := clS_mono (Nat.le_succ st.length) c
  unfold clS at h1 ⊢
  rw [List.all_append, h1, Bool.true_and, List.all_cons, List.all_nil, Bool.and_true]
  exact h
theorem clVs_of {n : Nat} {ps : List PV} (h : ∀ p ∈ ps, clV n p = true) : clVs n ps = true := by
  induction ps with
  | nil => rfl
  | cons p ps ih => exact Bool.and_eq_true_iff.mpr ⟨h p List.mem_cons_self, ih fun q hq => h q (List.mem_cons_of_mem _ hq)⟩
theorem clVs_ints (n : Nat) (vs : List Int) : clVs n (vs.map PV.int) = true := clVs_of fun p hp => by
  obtain ⟨v, _, rfl⟩ := List.mem_map.mp hp
  rfl
/-- an answer without garbage of its own -/
theorem LeR.plain {st g : Sto} {v : PV} {r : Res PV} (e : r = .ok v (st ++ g)) (hv : clV st.length v = true) (hs : clS st.length st = true) : LeR st.length (.ok v st) r := ⟨g, e, hv, hs, Nat.le_refl _⟩
theorem LeR.list {st g : Sto} {xs : List PV} {r : Res PV} (e : r = .ok (.ref st.length) (st ++ .lst xs :: g)) (hv : clVs (st.length + 1) xs = true) (hs : clS st.length st = true) : LeR st.length (.ok (.ref st.length) (st ++ [.lst xs])) r := by
  refine ⟨g, ?_, ?_, clS_add hs hv, ?_⟩
  · rw [e]
    simp
  · have hl : (st ++ [SO.lst xs]).length = st.length + 1 := by simp
    rw [hl]
    exact Nat.ble_eq_true_of_le (Nat.lt_succ_self _)
  · simp
end Mi
end
section
set_option maxRecDepth 100000
set_option maxHeartbeats 2000000
/-! MiLcT: comprehensions with any target; loops over pairs; joined texts -/
namespace Mi
open PySem PySem.Spec PyProof.Rows L2
theorem lcL_mapT {t : Tg} {es : PV → Mi.Env} {ts : DB} {el : DE} {p : PV → Bool} {h : PV → PV} {own : List Nat} {th : Th} {env : Mi.Env} {s : Sto} {k : Nat} {ys : List PV} (hk : lstAt s k = some ys) : ∀ (xs acc : List PV) (j : Nat) (m : Nat), ys.drop j = xs → xs.length < m → acc.length + xs.length ≤ 16777216 →
    (∀ x ∈ xs, t.set x env = some (es x)) →
    (∀ x ∈ xs, ∀ acc', ts th (es x) (s ++ [.lst acc']) = .ok (p x) (s ++ [.lst acc'])) → (∀ x ∈ xs, p x = true → ∀ acc', el th (es x) (s ++ [.lst acc']) = .ok (h x) (s ++ [.lst acc'])) →
    lcL t ts el own th s.length (lstG k) m j env (s ++ [.lst acc]) = .ok () (s ++ [.lst (acc ++ (xs.filter p).map h)]) := by
  have hkl : k < s.length := by
    unfold lstAt at hk
    by_cases hl : k < s.length
    · exact hl
    · rw [List.getElem?_eq_none (Nat.le_of_not_lt hl)] at hk
      cases hk
  have hg : ∀ j acc, lstG k j (s ++ [SO.lst acc]) = some ys[j]? := fun j acc => by
    unfold lstG lstAt
    rw [List.getElem?_append_left hkl]
    unfold lstAt at hk
    rw [hk]
  intro xs
  induction xs with
  | nil =>
    intro acc j m hd hm hz hs ht he
    cases m with
    | zero => cases hm
    | succ m =>
      unfold lcL
      rw [hg]
      have : ys[j]? = none := List.getElem?_eq_none (List.drop_eq_nil_iff.mp hd)
      rw [this]
      simp
  | cons x xs ih =>
    intro acc j m hd hm hz hs ht he
    cases m with
    | zero => cases hm
    | succ m =>
      rw [List.length_cons] at hz hm
      obtain ⟨e1, e2⟩ := drop_get hd
      have h1 := ht x List.mem_cons_self acc
      unfold lcL
      rw [hg, e1]
      dsimp only
      rw [hs x List.mem_cons_self]
      dsimp only
      rw [h1]
      dsimp only [Res.bind]
      cases hp : p x with
      | true =>
        rw [he x List.mem_cons_self hp acc]
        dsimp only
        rw [get_end]
        dsimp only
        have hb : Nat.blt acc.length 16777216 = true := Nat.ble_eq_true_of_le (by omega)
        rw [if_pos hb, set_end, ih (acc ++ [h x]) (j + 1) m e2 (by omega) (by rw [List.length_append, List.length_singleton]; omega) (fun y hy => hs y (List.mem_cons_of_mem _ hy)) (fun y hy => ht y (List.mem_cons_of_mem _ hy)) (fun y hy => he y (List.mem_cons_of_mem _ hy)), List.filter_cons_of_pos hp, List.map_cons, List.append_assoc]
        rfl
      | false =>
        dsimp only
        rw [ih acc (j + 1) m e2 (by omega) (by omega) (fun y hy => hs y (List.mem_cons_of_mem _ hy)) (fun y hy => ht y (List.mem_cons_of_mem _ hy)) (fun y hy => he y (List.mem_cons_of_mem _ hy)), List.filter_cons_of_neg (by rw [hp]; decide)]
/-- a comprehension over a list of the store, any target -/
theorem dLc_listT {it : DI} {t : Tg} {es : PV → Mi.Env} {ts : DB} {el : DE} {p : PV → Bool} {h : PV → PV} {own : List Nat} {th : Th} {env : Mi.Env} {st s : Sto} {xs : List PV} {k m : Nat} (hit : it th env st = .ok (.dyn m (lstG k)) s) (hk : lstAt s k = some xs) (hm : xs.length < m) (hz : xs.length ≤ 16777216)
    (hs : ∀ x ∈ xs, t.set x (wipeE env own) = some (es x)) (ht : ∀ x ∈ xs, ∀ acc', ts th (es x) (s ++ [.lst acc']) = .ok (p x) (s ++ [.lst acc']))
    (he : ∀ x ∈ xs, p x = true → ∀ acc', el th (es x) (s ++ [.lst acc']) = .ok (h x) (s ++ [.lst acc'])) : dLc it t ts el own th env st = .ok (.ref s.length) (s ++ [.lst ((xs.filter p).map h)]) := by
  unfold dLc
  rw [hit]
  dsimp only [Res.bind]
  rw [lcL_mapT hk xs [] 0 m rfl hm (by simpa using hz) hs ht he]
  rfl
/-- the same over values -/
theorem lcV_mapT {t : Tg} {es : PV → Mi.Env} {ts : DB} {el : DE} {p : PV → Bool} {h : PV → PV} {own : List Nat} {th : Th} {env : Mi.Env} {s : Sto} : ∀ (xs acc : List PV), acc.length + xs.length ≤ 16777216 → (∀ x ∈ xs, t.set x env = some (es x)) → (∀ x ∈ xs, ∀ acc', ts th (es x) (s ++ [.lst acc']) = .ok (p x) (s ++ [.lst acc'])) →
    (∀ x ∈ xs, p x = true → ∀ acc', el th (es x) (s ++ [.lst acc']) = .ok (h x) (s ++ [.lst acc'])) →
    lcV t ts el own th s.length xs env (s ++ [.lst acc]) = .ok () (s ++ [.lst (acc ++ (xs.filter p).map h)])
  | [], acc, _, _, _, _ => by
    simp [lcV]
  | x :: xs, acc, hz, hs, ht, he => by
    have h1 := ht x List.mem_cons_self acc
    rw [List.length_cons] at hz
    unfold lcV
    rw [hs x List.mem_cons_self]
    dsimp only
    rw [h1]
    dsimp only [Res.bind]
    cases hp : p x with
    | true =>
      rw [he x List.mem_cons_self hp acc]
      dsimp only
      rw [get_end]
      dsimp only
      have hb : Nat.blt acc.length 16777216 = true := Nat.ble_eq_true_of_le (by omega)
      rw [if_pos hb, set_end, lcV_mapT xs (acc ++ [h x]) (by rw [List.length_append, List.length_singleton]; omega) (fun y hy => hs y (List.mem_cons_of_mem _ hy)) (fun y hy => ht y (List.mem_cons_of_mem _ hy)) (fun y hy => he y (List.mem_cons_of_mem _ hy)), List.filter_cons_of_pos hp, List.map_cons, List.append_assoc]
      rfl
    | false =>
      dsimp only
      rw [lcV_mapT xs acc (by omega) (fun y hy => hs y (List.mem_cons_of_mem _ hy)) (fun y hy => ht y (List.mem_cons_of_mem _ hy)) (fun y hy => he y (List.mem_cons_of_mem _ hy)), List.filter_cons_of_neg (by rw [hp]; decide)]
theorem dLc_valsT {it : DI} {t : Tg} {es : PV → Mi.Env} {ts : DB} {el : DE} {p : PV → Bool} {h : PV → PV} {own : List Nat} {th : Th} {env : Mi.Env} {st s : Sto} {xs : List PV} (hit : it th env st = .ok (.vals xs) s) (hz : xs.length ≤ 16777216) (hs : ∀ x ∈ xs, t.set x (wipeE env own) = some (es x)) (ht : ∀ x ∈ xs, ∀ acc', ts th (es x) (s ++ [.lst acc']) = .ok (p x) (s ++ [.lst acc']))
    (he : ∀ x ∈ xs, p x = true → ∀ acc', el th (es x) (s ++ [.lst acc']) = .ok (h x) (s ++ [.lst acc'])) : dLc it t ts el own th env st = .ok (.ref s.length) (s ++ [.lst ((xs.filter p).map h)]) := by
  unfold dLc
  rw [hit]
  dsimp only [Res.bind]
  rw [lcV_mapT xs [] (by simpa using hz) hs ht he]
  rfl
theorem glue_flat : ∀ ss : List (List Nat), glue [] ss = ss.flatten
  | [] => rfl
  | [x] => by simp [glue]
  | x :: y :: r => by
    unfold glue
    rw [glue_flat (y :: r), List.append_nil]
    rfl
theorem len_flat : ∀ ss : List (List Nat), (ss.map List.length).sum = ss.flatten.length
  | [] => rfl
  | x :: r => by rw [List.map_cons, List.sum_cons, len_flat r, List.flatten_cons, List.length_append]
/-- "".join of texts -/
theorem e_join0 {k : Nat} {s : Sto} {ss : List (List Nat)} (h1 : lstAt s k = some (ss.map PV.str)) (h3 : szOk ss.flatten.length = true) : mJoin (.str []) [.ref k] s = .ok (.str ss.flatten) s := by
  rw [e_join h1 (strs_self ss) (by rw [len_flat]; exact h3), glue_flat]
end Mi
end
section
set_option maxRecDepth 100000
set_option maxHeartbeats 2000000
/-! MiKp: what stays in the store -/
namespace Mi
open PySem PySem.Spec PyProof.Rows L2
/-- but for ex, what stood there stands there still -/
def Kp (ex : List Nat) (st st' : Sto) : Prop := st.length ≤ st'.length ∧ ∀ i, i < st.length → i ∉ ex → st'[i]? = st[i]?
theorem Kp.refl (ex : List Nat) (st : Sto) : Kp ex st st := ⟨Nat.le_refl _, fun _ _ _ => rfl⟩
theorem Kp.trans {ex : List Nat} {a b c : Sto} (h : Kp ex a b) (k : Kp ex b c) : Kp ex a c := ⟨Nat.le_trans h.1 k.1, fun i hi he => (k.2 i (Nat.lt_of_lt_of_le hi h.1) he).trans (h.2 i hi he)⟩
theorem Kp.mono {ex ex' : List Nat} {a b : Sto} (h : Kp ex a b) (hs : ∀ i ∈ ex, i ∈ ex') : Kp ex' a b := ⟨h.1, fun i hi he => h.2 i hi fun z => he (hs i z)⟩
theorem Kp.app (ex : List Nat) (st g : Sto) : Kp ex st (st ++ g) := ⟨by rw [List.length_append]; omega, fun i hi _ => List.getElem?_append_left hi⟩
theorem Kp.same {w : Nat} {a b : Sto} (h : Same w a b) : Kp [w] a b := ⟨by rw [h.1]; exact Nat.le_refl _, fun i _ he => h.2 i fun z => he (by rw [z]; exact List.mem_singleton.mpr rfl)⟩
/-- what came later is written -/
theorem Kp.set {ex : List Nat} {a b : Sto} {D : Nat} {o : SO} (h : Kp ex a b) (hD : a.length ≤ D) : Kp ex a (b.set D o) := ⟨by rw [List.length_set]; exact h.1, fun i hi he => by rw [List.getElem?_set_ne (by omega)]; exact h.2 i hi he⟩
theorem Kp.get {ex : List Nat} {a b : Sto} {i : Nat} {o : SO} (h : Kp ex a b) (hi : a[i]? = some o) (he : i ∉ ex) : b[i]? = some o := by rw [h.2 i (get_lt hi) he, hi]
theorem Kp.one {w : Nat} {a b : Sto} {i : Nat} {o : SO} (h : Kp [w] a b) (hi : a[i]? = some o) (he : i ≠ w) : b[i]? = some o := h.get hi fun z => he (List.mem_singleton.mp z)
end Mi
end
section
set_option maxRecDepth 100000
set_option maxHeartbeats 2000000
/-! MiGood: values that are equal to themselves by their data -/
namespace Mi
open PySem PySem.Spec PyProof.Rows L2
def Good (n : Nat) (st : Sto) (p : PV) : Prop := ∃ d, dat n st p = some d ∧ PyData.eqv d d = true
theorem good_int (n : Nat) (st : Sto) (i : Int) : Good n st (.int i) := ⟨.int i, by cases n <;> rfl, by simp [PyData.eqv]⟩
theorem good_bl (n : Nat) (st : Sto) (i : Bool) : Good n st (.bl i) := ⟨.bool i, by cases n <;> rfl, by simp [PyData.eqv]⟩
theorem good_non (n : Nat) (st : Sto) : Good n st .non := ⟨.none, by cases n <;> rfl, by simp [PyData.eqv]⟩
theorem good_str (n : Nat) (st : Sto) {s : List Nat} (h : okCh s = true) : Good n st (.str s) := ⟨.str ⟨s.toArray⟩, by cases n <;> (unfold dat; rw [if_pos h]), by simp [PyData.eqv]⟩
theorem good_all {n : Nat} {st : Sto} : ∀ {xs : List PV}, (∀ x ∈ xs, Good n st x) → ∃ ds, mapO (dat n st) xs = some ds ∧ PyData.eqvAll ds ds = true ∧ ds.isEmpty = xs.isEmpty
  | [], _ => ⟨[], rfl, rfl, rfl⟩
  | x :: r, h => by
    obtain ⟨d, e, q⟩ := h x List.mem_cons_self
    obtain ⟨ds, e2, q2, _⟩ := good_all fun y hy => h y (List.mem_cons_of_mem _ hy)
    refine ⟨d :: ds, ?_, ?_, rfl⟩
    · unfold mapO
      rw [e]
      dsimp only
      rw [e2]
    · unfold PyData.eqvAll
      rw [q, q2]
      rfl
theorem good_tup {n : Nat} {st : Sto} {xs : List PV} (h : ∀ x ∈ xs, Good n st x) : Good (n + 1) st (.tup xs) := by
  obtain ⟨ds, e, q, _⟩ := good_all h
  refine ⟨.tuple ds, ?_, ?_⟩
  · unfold dat
    rw [e]
  · unfold PyData.eqv
    exact q
theorem ne_tup_same {st : Sto} {xs : List PV} (h : ∀ x ∈ xs, Good 59 st x) : pNe (.tup xs) (.tup xs) st = .ok (.bl false) st := by
  obtain ⟨d, e, q⟩ := good_tup h
  have r : pEqB (.tup xs) (.tup xs) st = some true := by
    show (match dat 60 st (.tup xs) with
      | some d => match dat 60 st (.tup xs) with
        | some e => some (PyData.eqv d e)
        | none => none
      | none => none) = _
    rw [e]
    dsimp only
    rw [q]
  unfold pNe
  rw [r]
  rfl
theorem dat_ref {st : Sto} {k n : Nat} {xs : List PV} {ds : List PyData} (h : lstAt st k = some xs) (e : mapO (dat n st) xs = some ds) : dat (n + 1) st (.ref k) = some (.list ds) := by
  unfold dat
  rw [h]
  dsimp only
  rw [e]
theorem eqB_lst {st : Sto} {a b : Nat} {xs ys : List PV} {ds es : List PyData} (ha : lstAt st a = some xs) (hb : lstAt st b = some ys) (e1 : mapO (dat 59 st) xs = some ds) (e2 : mapO (dat 59 st) ys = some es) : pEqB (.ref a) (.ref b) st = some (PyData.eqv (.list ds) (.list es)) := by
  show (match dat 60 st (.ref a) with
    | some d => match dat 60 st (.ref b) with
      | some e => some (PyData.eqv d e)
      | none => none
    | none => none) = _
  rw [dat_ref ha e1, dat_ref hb e2]
theorem eqB_same {st : Sto} {a b : Nat} {xs : List PV} (ha : lstAt st a = some xs) (hb : lstAt st b = some xs) (h : ∀ x ∈ xs, Good 59 st x) : pEqB (.ref a) (.ref b) st = some true := by
  obtain ⟨ds, e, q, _⟩ := good_all h
  rw [eqB_lst ha hb e e]
  unfold PyData.eqv
  rw [q]
theorem eqB_nil {st : Sto} {a b : Nat} {xs : List PV} (ha : lstAt st a = some xs) (hb : lstAt st b = some []) (h : ∀ x ∈ xs, Good 59 st x) : pEqB (.ref a) (.ref b) st = some xs.isEmpty := by
  obtain ⟨ds, e, q, i⟩ := good_all h
  rw [eqB_lst ha hb e rfl, ← i]
  cases ds <;> rfl
theorem ne_of_B {x y : PV} {st : Sto} {b : Bool} (h : pEqB x y st = some b) : pNe x y st = .ok (.bl (!b)) st := by
  unfold pNe
  rw [h]
theorem eq_of_B {x y : PV} {st : Sto} {b : Bool} (h : pEqB x y st = some b) : pEq x y st = .ok (.bl b) st := by
  unfold pEq
  rw [h]
theorem e_list {xs : List PV} (st : Sto) : fList [.tup xs] st = .ok (.ref st.length) (st ++ [.lst xs]) := rfl
end Mi
end
section
set_option maxRecDepth 100000
set_option maxHeartbeats 2000000
/-! MiLcG: comprehensions over whatever is walked; zip of a list and its tail -/
namespace Mi
open PySem PySem.Spec PyProof.Rows L2
theorem lcL_mapG {t : Tg} {es : PV → Mi.Env} {ts : DB} {el : DE} {p : PV → Bool} {h : PV → PV} {own : List Nat} {th : Th} {env : Mi.Env} {s : Sto} {g : Nat → Sto → Option (Option PV)} {ys : List PV} (hg : ∀ j acc, g j (s ++ [SO.lst acc]) = some ys[j]?) : ∀ (xs acc : List PV) (j : Nat) (m : Nat), ys.drop j = xs → xs.length < m → acc.length + xs.length ≤ 16777216 →
    (∀ x ∈ xs, t.set x env = some (es x)) →
    (∀ x ∈ xs, ∀ acc', ts th (es x) (s ++ [.lst acc']) = .ok (p x) (s ++ [.lst acc'])) → (∀ x ∈ xs, p x = true → ∀ acc', el th (es x) (s ++ [.lst acc']) = .ok (h x) (s ++ [.lst acc'])) →
    lcL t ts el own th s.length g m j env (s ++ [.lst acc]) = .ok () (s ++ [.lst (acc ++ (xs.filter p).map h)]) := by
  intro xs
  induction xs with
  | nil =>
    intro acc j m hd hm hz hs ht he
    cases m with
    | zero => cases hm
    | succ m =>
      unfold lcL
      rw [hg]
      have : ys[j]? = none := List.getElem?_eq_none (List.drop_eq_nil_iff.mp hd)
      rw [this]
      simp
  | cons x xs ih =>
    intro acc j m hd hm hz hs ht he
    cases m with
    | zero => cases hm
    | succ m =>
      rw [List.length_cons] at hz hm
      obtain ⟨e1, e2⟩ := drop_get hd
      have h1 := ht x List.mem_cons_self acc
      unfold lcL
      rw [hg, e1]
      dsimp only
      rw [hs x List.mem_cons_self]
      dsimp only
      rw [h1]
      dsimp only [Res.bind]
      cases hp : p x with
      | true =>
        rw [he x List.mem_cons_self hp acc]
        dsimp only
        rw [get_end]
        dsimp only
        have hb : Nat.blt acc.length 16777216 = true := Nat.ble_eq_true_of_le (by omega)
        rw [if_pos hb, set_end, ih (acc ++ [h x]) (j + 1) m e2 (by omega) (by rw [List.length_append, List.length_singleton]; omega) (fun y hy => hs y (List.mem_cons_of_mem _ hy)) (fun y hy => ht y (List.mem_cons_of_mem _ hy)) (fun y hy => he y (List.mem_cons_of_mem _ hy)), List.filter_cons_of_pos hp, List.map_cons, List.append_assoc]
        rfl
      | false =>
        dsimp only
        rw [ih acc (j + 1) m e2 (by omega) (by omega) (fun y hy => hs y (List.mem_cons_of_mem _ hy)) (fun y hy => ht y (List.mem_cons_of_mem _ hy)) (fun y hy => he y (List.mem_cons_of_mem _ hy)), List.filter_cons_of_neg (by rw [hp]; decide)]
theorem dLc_dyn {it : DI} {t : Tg} {es : PV → Mi.Env} {ts : DB} {el : DE} {p : PV → Bool} {h : PV → PV} {own : List Nat} {th : Th} {env : Mi.Env} {st s : Sto} {g : Nat → Sto → Option (Option PV)} {xs : List PV} {m : Nat} (hit : it th env st = .ok (.dyn m g) s) (hg : ∀ j acc, g j (s ++ [SO.lst acc]) = some xs[j]?) (hm : xs.length < m) (hz : xs.length ≤ 16777216)
    (hs : ∀ x ∈ xs, t.set x (wipeE env own) = some (es x)) (ht : ∀ x ∈ xs, ∀ acc', ts th (es x) (s ++ [.lst acc']) = .ok (p x) (s ++ [.lst acc']))
    (he : ∀ x ∈ xs, p x = true → ∀ acc', el th (es x) (s ++ [.lst acc']) = .ok (h x) (s ++ [.lst acc'])) : dLc it t ts el own th env st = .ok (.ref s.length) (s ++ [.lst ((xs.filter p).map h)]) := by
  unfold dLc
  rw [hit]
  dsimp only [Res.bind]
  rw [lcL_mapG hg xs [] 0 m rfl hm (by simpa using hz) hs ht he]
  rfl
theorem zG_of {j k : Nat} {s g : Sto} {xs ys : List PV} (h1 : lstAt (s ++ g) j = some xs) (h2 : lstAt (s ++ g) k = some ys) (i : Nat) : zG j k i (s ++ g) = some (zV xs ys)[i]? := by
  unfold zG
  rw [h1, zV_get]
  dsimp only
  rw [h2]
  dsimp only
  cases xs[i]? with
  | none => rfl
  | some x =>
    dsimp only
    cases ys[i]? <;> rfl
theorem cut_one {α : Type} (xs : List α) : cutP xs (some 1) none = xs.drop 1 := by
  unfold cutP
  rw [show HT.sIx xs.length 0 (some 1) = min 1 xs.length from HT.sIx_nat xs.length 0 1, HT.sIx_none]
  cases xs with
  | nil => rfl
  | cons a r =>
    rw [List.length_cons, show min 1 (r.length + 1) = 1 by omega]
    show (r.take (r.length + 1 - 1)) = r
    exact List.take_of_length_le (by omega)
theorem lstAt_app {s g : Sto} {k : Nat} {xs : List PV} (h : lstAt s k = some xs) : lstAt (s ++ g) k = some xs := by
  have hl : k < s.length := by
    unfold lstAt at h
    by_cases hl : k < s.length
    · exact hl
    · rw [List.getElem?_eq_none (Nat.le_of_not_lt hl)] at h
      cases h
  unfold lstAt at h ⊢
  rw [List.getElem?_append_left hl]
  exact h
end Mi
end
section
set_option maxRecDepth 100000
set_option maxHeartbeats 4000000
/-! MiSrt: sorted(..) of tuples that stand in order by their first ints -/
namespace Mi
open PySem PySem.Spec PyProof.Rows L2
section
variable {prog : Program} {w : World} {A : Around} {E : Value → Shared → Prop} {s : Shared}
/-- sorted(l) of 2 to 63 items that stand in order -/
theorem sorted_stay {l : Addr} {vs : List Value} {κ : SortKind} {Q : Value → Shared → Prop} (hl : s.heap.IsList l vs.toArray) (h2 : 2 ≤ vs.length) (h64 : vs.length < 64)
    (hk : ∀ h' : Heap, (∀ b o, s.heap.get? b = some o → h'.get? b = some o) → wpAny (model prog w) A.in1.in1 (keyKind' vs.toArray) (fun κ' s' => κ' = κ ∧ s' = { s with heap := h' }) (fun _ _ => False) { s with heap := h' })
    (hc : ∀ h' : Heap, (∀ b o, s.heap.get? b = some o → h'.get? b = some o) → ∀ i, 1 ≤ i → i < vs.length → ∀ C : Bool → Shared → Prop, C false { s with heap := h' } → PySem.W.kas_ask prog w A.in1.in1 κ vs i (i - 1) C { s with heap := h' })
    (h : Q (.ref (s.heap.objs.size + 1)) { s with heap := sortedAll s.heap vs vs.toArray }) :
    wpAny (model prog w) A (call (.builtin "sorted") [.ref l]) Q E s := by
  have hz : vs.length ≤ sizeLine := by rw [sizeLine_eq]; omega
  refine Calls.call_function_entry kind_sorted plain_sorted entry_sorted (args_sorted1 _) ?_
  unfold Builtin.«sorted»
  refine wpAny_bind (m := checkCount "sorted" 1 1 _) (wpAny_pure ?_)
  refine wpAny_bind (collect_list hl ?_ hz)
  refine wpAny_bind (wpAny_newList ?_ hz)
  have hsz : ((s.heap.push (seqObj "list" #[] 0)).update s.heap.objs.size (Obj.mapSeq (· ++ vs.toArray))).objs.size = s.heap.objs.size + 1 := by
    rw [Heap.size_update, size_push']
  have hoL : (((s.heap.push (seqObj "list" #[] 0)).update s.heap.objs.size (Obj.mapSeq (· ++ vs.toArray))).push (seqObj "list" vs.toArray 0)).get? (s.heap.objs.size + 1) = some (seqObj "list" vs.toArray 0) := by
    rw [← hsz]; exact Heap.get?_push_size _ rfl
  have keep : ∀ b o, s.heap.get? b = some o → b ≠ s.heap.objs.size + 1 ∧ (((s.heap.push (seqObj "list" #[] 0)).update s.heap.objs.size (Obj.mapSeq (· ++ vs.toArray))).push (seqObj "list" vs.toArray 0)).get? b = some o := fun b o q => by
    have hlt : b < s.heap.objs.size := Heap.lt_size q
    refine ⟨Nat.ne_of_lt (Nat.lt_succ_of_lt hlt), Heap.get?_push_of_some _ ?_⟩
    rw [Heap.get?_update_ne _ _ _ _ (Nat.ne_of_lt hlt)]
    exact Heap.get?_push_of_some _ q
  show wpAny _ _ _ _ _ { s with heap := ((s.heap.push (seqObj "list" #[] 0)).update s.heap.objs.size (Obj.mapSeq (· ++ vs.toArray))).push (seqObj "list" vs.toArray 0) }
  rw [hsz]
  refine wpAny_bind (wpAny_holding (wpAny_call_entry slot_list_sort ⟨_, hoL, rfl⟩ entry_list_sort (list_sort_asc (κ := κ) hoL h2 h64 (fun h' k => hk h' fun b o e => k b o (keep b o e).1 (keep b o e).2) (fun h' k => hc h' fun b o e => k b o (keep b o e).1 (keep b o e).2) ⟨_, rfl, ?_⟩) (args_list_sort _)))
  exact wpAny_pure ⟨_, rfl, h⟩
end
/-- a tuple whose first item is an int -/
def HdAt (K : PySem.W.Frag) (H : Hp) (x : V) (k : Int) : Prop := ∃ t r, x = .ref t ∧ SqT K H t (.int k :: r)
/-- sorted(list of tuples) whose first ints rise -/
def rSortedH (K : PySem.W.Frag) : List V → Hp → VK → Prop := fun vs H Q => ∃ (a : Addr) (xs : List V) (ks : List Int), vs = [V.ref a] ∧ SqL K H a xs ∧ Paired (HdAt K H) xs ks ∧ xs.length < 64 ∧ ks.Pairwise (· < ·) ∧
  ∀ p, H p = none → Q (.ref p) (upd H p (.lst xs))
theorem paired_len {α β : Type} {R : α → β → Prop} : ∀ {xs : List α} {ys : List β}, Paired R xs ys → xs.length = ys.length
  | _, _, .nil => rfl
  | _, _, .cons _ t => by rw [List.length_cons, List.length_cons, paired_len t]
theorem paired_get {α β : Type} {R : α → β → Prop} : ∀ {xs : List α} {ys : List β} {i : Nat} {x : α}, Paired R xs ys → xs[i]? = some x → ∃ y, ys[i]? = some y ∧ R x y
  | _, _, _, _, .nil, h => by simp at h
  | _, _, 0, _, .cons r _, h => by
    simp at h
    subst h
    exact ⟨_, rfl, r⟩
  | _, _, i + 1, _, .cons _ t, h => by
    obtain ⟨y, e, r⟩ := paired_get (i := i) t (by simpa using h)
    exact ⟨y, by simpa using e, r⟩
/-- the object of such a tuple -/
def TupH (h : Heap) (v : Value) (k : Int) : Prop := ∃ b, v = .ref b ∧ Tup1 h b k
theorem tupsH {h : Heap} : ∀ {vs : List Value} {ks : List Int}, Paired (TupH h) vs ks → ∃ fs : List Value, PySem.W.KatTups h vs fs ∧ fs.length = vs.length ∧ ∀ v ∈ fs, ∃ (m : Int) (t : Tok), v = Value.int m t
  | _, _, .nil => ⟨[], True.intro, rfl, fun v hv => by cases hv⟩
  | _, _, .cons (a := v) (b := k) ⟨b, e, o, xs, n, t, rest, e1, ec, ed, ex⟩ q => by
    subst e
    obtain ⟨fs, h1, h2, h3⟩ := tupsH q
    refine ⟨Value.int k t :: fs, PySem.W.KatTups.cons e1 ec ed ?_ h1, by rw [List.length_cons, List.length_cons, h2], fun v hv => ?_⟩
    · rw [← Array.getElem?_toList, ex]
      all_goals rfl
    · rcases List.mem_cons.mp hv with e' | hv
      · exact ⟨_, _, e'⟩
      · exact h3 v hv
theorem tupH_keep {h h' : Heap} (kp : ∀ b o, h.get? b = some o → h'.get? b = some o) : ∀ {vs : List Value} {ks : List Int}, Paired (TupH h) vs ks → Paired (TupH h') vs ks
  | _, _, .nil => .nil
  | _, _, .cons ⟨b, e, t⟩ q => .cons ⟨b, e, t.keep fun o => kp b o⟩ (tupH_keep kp q)
section
variable {X : Cx} {J : Jx}
theorem tupH_of {pins : List (Addr × Obj)} {σ : L2.St} {H : Hp} {s : Shared} (I : Inv X pins σ H s) : ∀ {xs : List V} {ks : List Int} {us : List Value}, Paired (HdAt X.K H) xs ks → Vals xs us → Paired (TupH s.heap) us ks
  | _, _, us, .nil, r => by
    cases r
    exact .nil
  | _, _, us, .cons ⟨t, r0, e, q⟩ p, r => by
    subst e
    cases r with
    | cons h1 h2 =>
      cases h1
      refine .cons ⟨t, rfl, ?_⟩ (tupH_of I p h2)
      obtain ⟨its, r2, ⟨o, ho, hc, n, hdd⟩, _⟩ := I.tuple q
      cases r2 with
      | cons hh tt =>
        obtain ⟨tk, et⟩ := hh
        subst et
        exact ⟨o, _, n, tk, _, ho, hc, hdd, rfl⟩
theorem cr_sortedH : CallR X (.builtin "sorted") (rSortedH X.K) := by
  intro pins s σ H vs us Q I r h
  obtain ⟨a, xs, ks, rfl, hs, hx, h64, hr, q⟩ := h
  obtain ⟨its, rv, hl, hz⟩ := I.list hs
  obtain ⟨u, rfl, ru⟩ := vals1 r
  have ru : u = Value.ref a := ru
  subst ru
  have lx : its.length = xs.length := rv.length.symm
  have hp := tupH_of I hx rv
  have fin : ∀ out : List Value, out = its → ∃ (v : V) (H' : Hp), Inv X pins σ H' { s with heap := sortedAll s.heap its out.toArray } ∧ RelV v (Value.ref (s.heap.objs.size + 1)) ∧ Q v H' := fun out e => by
    subst e
    obtain ⟨ep, he'⟩ := PyProof.Rows.sortedAll_at s.heap out out.toArray
    exact ⟨.ref _, upd H (s.heap.objs.size + 1) (.lst xs), I.laid (t' := s.toks) (fun _ _ => PyProof.Rows.sortedAll_old) (Nat.le_succ _) ⟨hz, out, ep, rv, he'⟩, rfl, q _ (I.hok.fresh (Nat.le_succ _))⟩
  by_cases h2 : 2 ≤ its.length
  · refine sorted_stay (κ := tuples' true) hl.isList h2 (by omega) (fun h' k => ?_) (fun h' k i h1 h3 C hC => ?_) (fin its rfl)
    · obtain ⟨fs, t1, t2, t3⟩ := tupsH (tupH_keep k hp)
      refine PySem.W.kat_kind (s := { s with heap := h' }) (T := Value.type "int") t1 (by omega) (fun v hv => ?_) rfl ⟨by rw [tup1_kind], rfl⟩
      obtain ⟨m, t, e⟩ := t3 v hv
      subst e
      exact PySem.W.Looks.of_pure rfl
    · have hp' := tupH_keep k hp
      have hj : i - 1 < its.length := by omega
      obtain ⟨k1, g1, b1, e1, o, ys, n1, t, r1, m1, m2, m3, m4⟩ := paired_get hp' (List.getElem?_eq_getElem h3)
      obtain ⟨k2, g2, b2, e2, o', ys', n2, t', r2, m1', m2', m3', m4'⟩ := paired_get hp' (List.getElem?_eq_getElem hj)
      have hlt : k2 < k1 := by
        obtain ⟨l1, f1⟩ := List.getElem?_eq_some_iff.mp g1
        obtain ⟨l2, f2⟩ := List.getElem?_eq_some_iff.mp g2
        have := List.pairwise_iff_getElem.mp hr (i - 1) i l2 l1 (by omega)
        rw [f1, f2] at this
        exact this
      have d1 : its.getD i Value.none = Value.ref b1 := by rw [List.getD_eq_getElem?_getD, List.getElem?_eq_getElem h3, e1]; rfl
      have d2 : its.getD (i - 1) Value.none = Value.ref b2 := by rw [List.getD_eq_getElem?_getD, List.getElem?_eq_getElem hj, e2]; rfl
      have hne : (k1 == k2) = false := beq_eq_false_iff_ne.mpr (by omega)
      have hnl : decide (k1 < k2) = false := decide_eq_false (by omega)
      unfold PySem.W.kas_ask
      rw [d1, d2]
      refine PySem.W.kat_lt (s := { s with heap := h' }) m1 m3 m1' m3' ?_
      rw [m4, m4']
      show PySem.W.KatLex _ _ _ _ _ _ ((Value.int k1 t, Value.int k2 t') :: r1.zip r2) 0 _
      refine PySem.W.kat_cons (wpAny_eqBool_int ?_)
      rw [hne]
      refine PySem.W.kat_no ?_
      show wpAny _ _ (oneLt' true (Value.int k1 t) (Value.int k2 t')) _ _ _
      refine oneLt_int ?_
      rw [hnl]
      exact hC
  · refine SrtO.sorted_ord (ltv := fun _ _ => false) ⟨fun _ _ _ => rfl, fun _ _ _ _ _ => rfl⟩ hl.isList (by omega) (fun h => absurd h h2) fun out _ hb => fin out ?_
    have pm := hb.perm
    cases its with
    | nil => exact pm.eq_nil
    | cons x r =>
      have : r = [] := by
        rw [List.length_cons] at h2
        exact List.eq_nil_of_length_eq_zero (by omega)
      subst this
      exact List.perm_singleton.mp pm
/-- the first ints of tuples -/
def headsOf : List PV → Option (List Int)
  | [] => some []
  | .tup (.int i :: _) :: r => match headsOf r with
    | some is => some (i :: is)
    | none => none
  | _ :: _ => none
def riseI : List Int → Bool
  | [] => true
  | [_] => true
  | a :: b :: r => decide (a < b) && riseI (b :: r)
theorem riseI_pw : ∀ {l : List Int}, riseI l = true → l.Pairwise (· < ·)
  | [], _ => .nil
  | [_], _ => List.pairwise_singleton _ _
  | a :: b :: r, h => by
    unfold riseI at h
    rw [Bool.and_eq_true] at h
    have ih := riseI_pw h.2
    have hab := of_decide_eq_true h.1
    refine List.pairwise_cons.mpr ⟨fun z hz => ?_, ih⟩
    rcases List.mem_cons.mp hz with rfl | hz
    · exact hab
    · exact Int.lt_trans hab ((List.pairwise_cons.mp ih).1 z hz)
theorem pw_riseI : ∀ {l : List Int}, l.Pairwise (· < ·) → riseI l = true
  | [], _ => rfl
  | [_], _ => rfl
  | a :: b :: r, h => by
    obtain ⟨h1, h2⟩ := List.pairwise_cons.mp h
    unfold riseI
    rw [decide_eq_true (h1 b List.mem_cons_self), pw_riseI h2]
    rfl
def fSortX (xs : List PV) (st : Sto) : Res PV := match xs with
  | [.ref k] => match lstAt st k with
    | some ys => match headsOf ys with
      | some is => if (Nat.blt is.length 64 && riseI is) = true then .ok (.ref st.length) (st ++ [.lst ys]) else .bad
      | none => .bad
    | none => .bad
  | _ => .bad
theorem rvs_heads {W : Wd} {H : Hp} {ρ : Nat → Addr} {n : Nat} : ∀ {ps : List PV} {is : List Int} {vs : List V}, headsOf ps = some is → RVs W H ρ n ps vs → Paired (HdAt W.K H) vs is
  | [], is, vs, e, h => by
    cases e
    have h : vs = [] := h
    subst h
    exact .nil
  | p :: ps, is, vs, e, ⟨v, r, e2, h1, h2⟩ => by
    unfold headsOf at e
    split at e
    · rename_i e3
      cases e3
    · rename_i i r' ps' e3
      cases e3
      split at e
      · rename_i js ejs
        cases e
        subst e2
        obtain ⟨a, us, rfl, q, y, z, rfl, hy, hz⟩ := h1
        have hy : y = .int i := hy
        subst hy
        exact .cons ⟨a, z, rfl, q⟩ (rvs_heads ejs h2)
      · cases e
    · cases e
theorem ok_sortX : CallOK J fSortX (rSortedH J.W.K) := by
  intro E H ρ st ps xs Q r h g
  unfold fSortX at g
  split at g
  · split at g
    · rename_i k ys e1
      obtain ⟨x, rfl, _, rfl⟩ := h.one
      obtain ⟨vs, q, hv⟩ := r.seq e1
      split at g
      · rename_i is e2
        split at g
        · rename_i hc
          rw [Bool.and_eq_true] at hc
          have hp := rvs_heads e2 hv
          refine ⟨_, vs, is, rfl, q, hp, by rw [paired_len hp]; exact Nat.le_of_ble_eq_true hc.1, riseI_pw hc.2, fun p hp => ?_⟩
          exact g _ _ _ (.newL r hp hv) ⟨by simp, by rw [put_same]⟩
        · exact g.elim
      · exact g.elim
    · exact g.elim
  · exact g.elim
end
theorem e_sortX {s : Sto} {k : Nat} {ys : List PV} {is : List Int} (h : lstAt s k = some ys) (h2 : headsOf ys = some is) (h3 : is.length < 64) (h4 : is.Pairwise (· < ·)) : fSortX [.ref k] s = .ok (.ref s.length) (s ++ [.lst ys]) := by
  unfold fSortX
  dsimp only
  rw [h]
  dsimp only
  rw [h2]
  dsimp only
  rw [pw_riseI h4, show Nat.blt is.length 64 = true from Nat.ble_eq_true_of_le h3]
  rfl
end Mi
end
section
set_option maxRecDepth 100000
set_option maxHeartbeats 4000000
/-! MiTxt2: three figures of an int, a text from behind, a dict of one pair -/
namespace Mi
open PySem PySem.Spec PyProof.Rows L2
/-- a cell's three figures -/
def dg3 (c : Nat) : List Nat := [48 + c / 100, 48 + c / 10 % 10, 48 + c % 10]
def sp03 : Str := ⟨#[48, 51, 100]⟩
section
open Builtin Builtin.Str Builtin.Int Builtin.Float
def f03 : FormatSpec := match parseFormatSpec [48, 51, 100] "int" 62 with
  | .ok f => f
  | .error _ => { align := 62 }
theorem parse03 : parseFormatSpec sp03.cps.toList "int" 62 = .ok f03 := by rfl
theorem text03 : ∀ c : Nat, c < 1000 → intSpecText f03 (c : Int) = ⟨(dg3 c).toArray⟩ := by
  have h : ((List.range 1000).all fun c => decide (intSpecText f03 (c : Int) = ⟨(dg3 c).toArray⟩)) = true := by decide +kernel
  intro c hc
  exact of_decide_eq_true (List.all_eq_true.mp h c (List.mem_range.mpr hc))
theorem gives_03 {c : Nat} (h : c < 1000) (t u : Tok) : Gives («int.__format__» ⟨[.int (c : Int) t, .str sp03 u], []⟩) (.str ⟨(dg3 c).toArray⟩) := fun prog w A R s hq => by
  have hl : ((c : Int)).natAbs.log2 < 1920 := by
    have : ((c : Int)).natAbs.log2 ≤ 10 := by
      by_cases h0 : ((c : Int)).natAbs = 0
      · rw [h0]; exact Nat.zero_le _
      · rw [← Nat.lt_succ_iff, Nat.log2_lt h0]; omega
    omega
  have ht := text03 c h
  have hp := parse03
  have p1 : f03.precision = none := rfl
  have p2 : f03.noNeg0 = false := rfl
  have p3 : f03.width = some 3 := rfl
  have e1 : f03.grouping = none := rfl
  have e2 : f03.sign = none := rfl
  have e3 : f03.alt = false := rfl
  have e4 : f03.type.getD (if (sp03.cps.back? == some 0) = true then 0 else 100) = 100 := rfl
  generalize f03 = f at *
  unfold «int.__format__»
  simp only [selfAndOne, noKeywords, Int.intOfSelf, asInt?, asStr?, List.isEmpty_nil, if_true, pure_bind, bind_pure, bind_assoc, show (sp03.length == 0) = false from rfl, Bool.false_eq_true, if_false, show (Value.str sp03 u == Value.none) = false from rfl,
    show ((sp03.cps.toList.drop 1).any (· ≥ 128) || (sp03.cps.getD 0 0 ≥ 128 && !([60, 62, 61, 94] : List Nat).contains (sp03.cps.getD 1 0))) = false from rfl]
  refine wpAny_bind (wpAny_typeNameOf (T := "str") (typeIs_str _ _ _) (by decide) fun _ => ?_)
  first
    | refine wpAny_bind (wpAny_typeNameOfCut_int ?_)
    | refine wpAny_bind (wpAny_typeNameOf_int ?_)
  simp only [hp, e4]
  rw [if_pos (by decide)]
  show wpAny _ _ (if _ then _ else _) _ _ _
  rw [if_neg (by simp [p1])]
  show wpAny _ _ (if _ then _ else _) _ _ _
  rw [if_neg (by simp [p2])]
  show wpAny _ _ (if _ then _ else _) _ _ _
  rw [if_neg (by decide)]
  show wpAny _ _ (do let r ← Builtin.overDigitLimit? (c : Int); _) _ _ _
  rw [(show Builtin.overDigitLimit? (c : Int) = pure none by unfold Builtin.overDigitLimit?; exact if_pos hl), pure_bind]
  show wpAny _ _ (if _ then _ else _) _ _ _
  rw [if_neg (by simp [p3])]
  show wpAny _ _ (retStr _) _ _ _
  unfold retStr
  obtain ⟨q1, q2⟩ := hq
  rw [← ht] at q1 q2
  have k2 : ∀ z, z = intSpecText f (c : Int) → R (Except.ok (Flow.ret (Value.str z s.toks))) { s with toks := s.toks + 1 } := fun z hz => by
    rw [hz]
    exact q2
  have k1 : ∀ z, z = intSpecText f (c : Int) → z.length ≤ sizeLine := fun z hz => by
    rw [hz]
    exact q1
  refine wpAny_bind (wpAny_mkStr (wpAny_pure (k2 _ ?_)) (k1 _ ?_))
  · simp only [e3, Bool.false_eq_true, if_false, show ((10 : Nat) == 10) = true by decide, if_true]
    conv => lhs; whnf
    simp only [intSpecText, intField', e1, e2]
    rfl
  · simp only [e3, Bool.false_eq_true, if_false, show ((10 : Nat) == 10) = true by decide, if_true]
    conv => lhs; whnf
    simp only [intSpecText, intField', e1, e2]
    rfl
end
section
variable {X : Cx} {J : Jx}
/-- {e:03d} -/
def tFmt3 (te : TE) : TE := fun σ H Q => te σ H fun x H1 => ∃ c : Nat, x = .int (c : Int) ∧ c < 1000 ∧ Q (.str ⟨(dg3 c).toArray⟩) H1
theorem pe_fmt3 {e sp : Expr} {te : TE} {pos : Pos} (he : PE X e te) (hs : PE X sp (tC (.str sp03))) : PE X (.FormattedValue e (-1) (some sp) pos) (tFmt3 te) := ⟨fun pins s σ H Q I h => by
  refine wpAny_FormattedValue_spec (thn (he.run pins s σ H _ I h) fun v s1 hv => ?_)
  obtain ⟨x, H1, I1, r1, c, hx, hc, q⟩ := hv
  refine thn (hs.run pins s1 σ H1 (fun y H2 => y = .str sp03 ∧ H2 = H1) I1 ⟨rfl, rfl⟩) fun u s2 hu => ?_
  obtain ⟨y, H2, I2, r2, hy, hH⟩ := hu
  subst hx hy hH
  obtain ⟨t1, ht1⟩ := r1
  obtain ⟨t2, ht2⟩ := r2
  subst ht1 ht2
  exact ⟨sp03, t2, rfl, wpAny_formatField_spec rfl (fun s' => typeIs_int s' _ t1) F.slot_int_format F.entry_int_format F.args_int_format_2 (fun u => gives_03 hc t1 u) ⟨.str ⟨(dg3 c).toArray⟩, H2, I2.tok _, ⟨_, rfl⟩, q⟩ (by decide) (by rw [sizeLine_eq]; show (dg3 c).toArray.size ≤ _; simp [dg3])⟩⟩
def fFmt (p : PV) (st : Sto) : Res PV := match p with
  | .int i => if (decide (0 ≤ i) && decide (i < 1000)) = true then .ok (.str (dg3 i.toNat)) st else .bad
  | _ => .bad
theorem xe_fmt {e sp : Expr} {de : DE} {pos : Pos} (J2 : XJ X J) (he : PE X e (rdE J de)) (hs : PE X sp (tC (.str sp03))) : PE X (.FormattedValue e (-1) (some sp) pos) (rdE J (dUn fFmt de)) :=
  PE.imp (pe_fmt3 he hs) fun σ H Q h => rd_bind J2.st h fun ρ th env st v x H1 S rv g => by
    unfold fFmt at g
    split at g
    · split at g
      · rename_i i hi
        rw [Bool.and_eq_true] at hi
        have h1 := of_decide_eq_true hi.1
        have h2 := of_decide_eq_true hi.2
        have hx : x = .int i := rv
        exact ⟨i.toNat, by rw [hx]; congr 1; omega, by omega, g H1 ρ _ (.refl S.rs) rfl⟩
      · exact g.elim
    · exact g.elim
theorem xe_spec {z : Str} {j : Nat} {p pos : Pos} (hz : z = sp03) : PE X (.JoinedStr [.Constant (.str z) j p] pos) (tC (.str sp03)) := by
  subst hz
  exact pe_joined1 pe_str
theorem xe_js1 {e : Expr} {de : DE} {pos : Pos} (he : PE X e (rdE J de)) : PE X (.JoinedStr [e] pos) (rdE J de) := pe_joined1 he
/-- x[::-1] of a text -/
def tRevS (te : TE) : TE := fun σ H Q => te σ H fun x H1 => ∃ z : Str, x = .str z ∧ z.length ≤ sizeLine ∧ Q (.str ⟨z.cps.toList.reverse.toArray⟩) H1
theorem back_made (z : Str) (t tk : Tok) : sliceMade z t none none (some (-1, tk)) = .str ⟨z.cps.toList.reverse.toArray⟩ := by
  have e : slicePicked z none none (some (-1, tk)) = (List.range z.cps.size).reverse := by
    show Builtin.Str.strSliceIndices none none (-1) z.cps.size = _
    have : Builtin.Str.strSliceIndices none none (-1) z.cps.size = sliceRange ((z.cps.size : Int) - 1) (-1) (-1) := by
      unfold Builtin.Str.strSliceIndices
      rfl
    rw [this, PySem.W.krv_sliceRange, PySem.W.krv_range]
  unfold sliceMade
  rw [e, List.filterMap_reverse, PySem.W.krv_all]
  rfl
theorem pe_revS {e : Expr} {te : TE} {k : Nat} {p1 p2 p3 pos : Pos} (he : PE X e te) : PE X (.Subscript e (.Slice none none (some (.UnaryOp .USub (.Constant (.int 1) k p1) p2)) p3) pos) (tRevS te) := ⟨fun pins s σ H Q I h => by
  have minus : PO X (some (.UnaryOp .USub (.Constant (.int 1) k p1) p2)) (tPart (tUn (rU fun i => .int (-i)) (tC (.int 1)))) := po_some (pe_un un_neg pe_int)
  refine Subscript_ (thn (he.run pins s σ H _ I h) fun v s1 hv => ?_)
  obtain ⟨x, H1, I1, r1, z, hx, hz, q⟩ := hv
  subst hx
  obtain ⟨t, ht⟩ := r1
  subst ht
  refine wpAny_Slice (thn (po_none.run pins s1 σ H1 (fun o K => o = none ∧ K = H1) I1 ⟨rfl, rfl⟩) fun vl s2 h2 => ?_)
  obtain ⟨l, H2, I2, pl, e2, k2⟩ := h2
  subst e2 k2
  refine thn (po_none.run pins s2 σ H2 (fun o K => o = none ∧ K = H2) I2 ⟨rfl, rfl⟩) fun vu s3 h3 => ?_
  obtain ⟨u, H3, I3, pu, e3, k3⟩ := h3
  subst e3 k3
  refine thn (minus.run pins s3 σ H3 (fun o K => o = some (-1) ∧ K = H3) I3 ⟨1, rfl, -1, rfl, rfl, rfl⟩) fun vs s4 h4 => ?_
  obtain ⟨o, H4, I4, ps, e4, k4⟩ := h4
  subst e4 k4
  cases pl
  cases pu
  cases ps with
  | int _ tk =>
    have I5 : Inv X pins σ H4 { s4 with heap := s4.heap.push { cls := .type "slice", data := .fields #[.none, .none, .int (-1) tk] } } := I4.kept (t' := s4.toks) fun b ob q => Heap.get?_push_of_some _ q
    refine tail_any (s := { s4 with heap := s4.heap.push { cls := .type "slice", data := .fields #[.none, .none, .int (-1) tk] } }) (typeIs_str _ z t) F.slot_str_getitem.lookup ?_ (by with_unfolding_all rfl)
    refine wpAny_getItem_str_slice (l := none) (u := none) (st := some (-1, tk)) ⟨_, Heap.get?_push_size _ rfl, rfl, rfl⟩ rfl ?_
    rw [back_made]
    refine ⟨?_, .str _, H4, I5.tok _, ⟨_, rfl⟩, q⟩
    show z.cps.toList.reverse.toArray.size ≤ sizeLine
    simp
    exact hz⟩
def fRev (p : PV) (st : Sto) : Res PV := match p with
  | .str s => if szOk s.length = true then .ok (.str s.reverse) st else .bad
  | _ => .bad
theorem xe_rev {e : Expr} {de : DE} {k : Nat} {p1 p2 p3 pos : Pos} (J2 : XJ X J) (he : PE X e (rdE J de)) : PE X (.Subscript e (.Slice none none (some (.UnaryOp .USub (.Constant (.int 1) k p1) p2)) p3) pos) (rdE J (dUn fRev de)) :=
  PE.imp (pe_revS he) fun σ H Q h => rd_bind J2.st h fun ρ th env st v x H1 S rv g => by
    unfold fRev at g
    split at g
    · split at g
      · rename_i s hs
        have hx : x = .str (toS s) := rv
        refine ⟨toS s, hx, by rw [str_len]; exact szOk_le hs, g H1 ρ _ (.refl S.rs) ?_⟩
        show _ = V.str ⟨s.reverse.toArray⟩
        show V.str ⟨(s.toArray.toList).reverse.toArray⟩ = _
        simp
      · exact g.elim
    · exact g.elim
/-- {key: value} of constants -/
def dDict1 (k : List Nat) (i : Int) : DE := fun _ _ st => .ok (.ref st.length) (st ++ [.dct [(.inr (toS k), .int i)]])
theorem xe_dict1 {z : Str} {i : Int} {k : List Nat} {j1 j2 : Nat} {p1 p2 pos : Pos} (hz : z = toS k) : PE X (.Dict [some (.Constant (.str z) j1 p1)] [.Constant (.int i) j2 p2] pos) (rdE J (dDict1 k i)) := by
  subst hz
  refine PE.imp (pe_disp (pps_cons pe_str pe_int pps_nil) rfl rfl (by simp) (by simp)) fun σ H Q h => ?_
  obtain ⟨ρ, th, env, st, S, g⟩ := h
  intro p hp
  refine ⟨upd_same, [(.inr (toS k), .int i)], rfl, by simp, ?_⟩
  rw [upd_upd]
  exact g _ _ _ (.alloc (so := .dct [(.inr (toS k), .int i)]) S.rs hp ⟨[(.inr (toS k), .int i)], upd_same, .int i, [], rfl, rfl, rfl⟩ rfl) ⟨by simp, by rw [put_same]⟩
end
end Mi
end
section
set_option maxRecDepth 100000
set_option maxHeartbeats 4000000
namespace K09
open PySem PySem.Spec PyProof.Rows L2 Mi
/-! ### what the package's and the law's defs answer -/
/-- a text's sign -/
def sgB (c : Nat) : Bool := decide (32 ≤ c) && decide (c ≤ 126)
def okT (x : List Nat) : Bool := Nat.ble x.length 60000 && x.all sgB
def digB (c : Nat) : Bool := decide (48 ≤ c) && decide (c ≤ 57)
/-- three figures, read -/
def v3 : List Nat → Int
  | [p, q, r] => ((100 * (p - 48) + 10 * (q - 48) + (r - 48) : Nat) : Int)
  | _ => 0
/-- the numbers of a text of figures -/
def nums (x : List Nat) : Nat → Nat → List Int
  | _, 0 => []
  | i, n + 1 => v3 ((x.drop (3 * i)).take 3) :: nums x (i + 1) n
/-- the cells that a text tells -/
def told (x : List Nat) : Option (List Int) := if (x.length % 3 == 0 && x.all digB && (nums x 0 (x.length / 3)).all fun v => decide (v < 997)) = true then some (nums x 0 (x.length / 3)) else none
def optT : Option (List Int) → PV
  | some vs => .tup (vs.map .int)
  | none => .non
/-- the cells of the window at a place -/
def winV (x : List Nat) (p : Nat) : Option (List Int) := if (x[p]? == some 35 && x[p + 121]? == some 59) = true then told ((x.drop (p + 1)).take 120) else none
def winsFrom (x : List Nat) : Nat → Nat → List (Nat × List Int)
  | _, 0 => []
  | p, k + 1 => match winV x p with
    | some c => (p, c) :: winsFrom x (p + 1) k
    | none => winsFrom x (p + 1) k
def wins (x : List Nat) : List (Nat × List Int) := winsFrom x 0 x.length
def wPV (w : Nat × List Int) : PV := .tup [.int w.1, .tup (w.2.map .int)]
def s_is_text : Fn := fun ps st => match ps with
  | [p] => match tyOf st p with
    | some .str => match p with
      | .str x => if Nat.ble x.length 60000 = true then .ok (.bl (x.all sgB)) st else .bad
      | _ => .bad
    | some _ => .ok (.bl false) st
    | none => .bad
  | _ => .bad
def s_require_text : Fn := fun ps st => match ps with
  | [.str x] => if okT x = true then .ok .non st else .bad
  | _ => .bad
def s_cells_told : Fn := fun ps st => match ps with
  | [.str x] => if okT x = true then .ok (optT (told x)) st else .bad
  | _ => .bad
def s_window_at : Fn := fun ps st => match ps with
  | [.str x, .int i] => if (okT x && decide (0 ≤ i) && decide (i < x.length)) = true then .ok (optT (winV x i.toNat)) st else .bad
  | _ => .bad
def s_windows_found : Fn := fun ps st => match ps with
  | [.str x] => if okT x = true then .ok (.ref st.length) (st ++ [.lst ((wins x).map wPV)]) else .bad
  | _ => .bad
def s_windows : Fn := fun ps st => match ps with
  | [.str x] => if okT x = true then .ok (.tup ((wins x).map wPV)) st else .bad
  | _ => .bad
/-- a cell's three figures -/
def dg (c : Nat) : List Nat := [48 + c / 100, 48 + c / 10 % 10, 48 + c % 10]
def s_law_told : Fn := s_cells_told
/-- the window with some cells -/
def winT (cs : List Int) : List Nat := 35 :: ((cs.map fun c => dg c.toNat).flatten ++ [59])
def cellsOf : List PV → Option (List Int)
  | [] => some []
  | .int c :: r => if (decide (0 ≤ c) && decide (c < 1000)) = true then match cellsOf r with
    | some cs => some (c :: cs)
    | none => none
    else none
  | _ => none
def s_law_window : Fn := fun ps st => match ps with
  | [.tup xs] => match cellsOf xs with
    | some cs => if Nat.ble cs.length 1000 = true then .ok (.str (winT cs)) st else .bad
    | none => .bad
  | _ => .bad
def flat (cs : List Int) : List Nat := (cs.map fun c => dg c.toNat).flatten
def winB (x : List Nat) : Bool := decide (x.length = 122) && (winV x 0).isSome
def s_is_window : Fn := fun ps st => match ps with
  | [p] => match tyOf st p with
    | some .str => match p with
      | .str x => if okT x = true then .ok (.bl (winB x)) st else .bad
      | _ => .bad
    | some _ => .ok (.bl false) st
    | none => .bad
  | _ => .bad
def s_law_is_window : Fn := fun ps st => match ps with
  | [.str x] => if okT x = true then .ok (.bl (winB x)) st else .bad
  | _ => .bad
def s_window_cells : Fn := fun ps st => match ps with
  | [.str x] => if okT x = true then .ok (if x.length = 122 then optT (winV x 0) else .non) st else .bad
  | _ => .bad
/-- a tuple of cells -/
def cells9 : List PV → Option (List Int)
  | [] => some []
  | .int c :: r => if (decide (0 ≤ c) && decide (c < 997)) = true then match cells9 r with
    | some cs => some (c :: cs)
    | none => none
    else none
  | _ => none
def s_cells_text : Fn := fun ps st => match ps with
  | [.tup xs] => match cells9 xs with
    | some cs => if Nat.ble cs.length 1000 = true then .ok (.str (flat cs)) st else .bad
    | none => .bad
  | _ => .bad
def s_window_text : Fn := fun ps st => match ps with
  | [.tup xs] => match cells9 xs with
    | some cs => if (cs.length == 40) = true then .ok (.str (winT cs)) st else .bad
    | none => .bad
  | _ => .bad
/-! ### what the defs do -/
def d_is_whole : DS := dRet (dAnd (dUn (fIsi .int) (dVar 0)) (dNot (dUn (fIsi .bool) (dVar 0))))
def m_is_whole : Fn := mkF 1 d_is_whole
def f_is_whole : Fn := m_is_whole
def d_is_within : DS := dRet (dAnd (dCall 1 f_is_whole (dCons (dVar 0) (dNil))) (dChain pLe pLe (dVar 1) (dVar 0) (dVar 2)))
def m_is_within : Fn := mkF 3 d_is_within
def f_is_within : Fn := m_is_within
def d_is_cell : DS := dRet (dCall 3 f_is_within (dCons (dVar 0) (dCons (dC (.int 0)) (dCons (dC (.int 996)) (dNil)))))
def m_is_cell : Fn := mkF 1 d_is_cell
def f_is_cell : Fn := m_is_cell
def bo_are_cells_in_0 : DE := dCall 1 f_is_cell (dCons (dVar 3) (dNil))
def d_are_cells_in : DS := dSeq (dIfS (dOrT (dNotT (dTst (dUn (fIsi .tuple) (dVar 0)))) (dNotT (dTB (dChain pLe pLe (dVar 1) (dApp fLen (dCons (dVar 0) (dNil))) (dVar 2))))) (dRet (dC (.bl false))) (dSkip)) (dRet (dApp fAll (dCons (dLc (dIt (dVar 0)) (.nm 3) (dYes) (bo_are_cells_in_0) [3]) (dNil))))
def m_are_cells_in : Fn := mkF 4 d_are_cells_in
def f_are_cells_in : Fn := m_are_cells_in
def bo_is_cells_0 : DE := dCall 1 f_is_cell (dCons (dVar 1) (dNil))
def d_is_cells : DS := dRet (dAnd (dUn (fIsi .tuple) (dVar 0)) (dApp fAll (dCons (dLc (dIt (dVar 0)) (.nm 1) (dYes) (bo_is_cells_0) [1]) (dNil))))
def m_is_cells : Fn := mkF 2 d_is_cells
def f_is_cells : Fn := m_is_cells
def bo_text_in_0 : DE := dUn fFmt (dVar 1)
def d_text_in : DS := dRet (dMet isStr mJoin (dC (.str [])) (dCons (dLc (dIt (dVar 0)) (.nm 1) (dYes) (bo_text_in_0) [1]) (dNil)))
def m_text_in : Fn := mkF 2 d_text_in
def f_text_in : Fn := m_text_in
def bo_cells_told_0 : DE := dBin pLt (dVar 4) (dC (.int 997))
def bo_cells_told_1 : DE := dApp fIntX (dCons (dSl (dVar 0) (dPt (dVar 3)) (dPt (dBin pAdd (dVar 3) (dC (.int 3))))) (dNil))
def bo_cells_told_2 : DE := dBin pInK (dVar 2) (dC (.str [48, 49, 50, 51, 52, 53, 54, 55, 56, 57]))
def d_cells_told : DS := dSeq (dIfS (dOrT (dTB (dBin pNe (dBin pMod (dApp fLen (dCons (dVar 0) (dNil))) (dC (.int 3))) (dC (.int 0)))) (dNotT (dTst (dApp fAll (dCons (dLc (dIt (dVar 0)) (.nm 2) (dYes) (bo_cells_told_2) [2]) (dNil)))))) (dRet (dC .non)) (dSkip)) (dSeq (dSet (.nm 1) (dApp fTuple (dCons (dLc (dRng fRng3 (dCons (dC (.int 0)) (dCons (dApp fLen (dCons (dVar 0) (dNil))) (dCons (dC (.int 3)) (dNil))))) (.nm 3) (dYes) (bo_cells_told_1) [3]) (dNil)))) (dRet (dIf (dTst (dApp fAll (dCons (dLc (dIt (dVar 1)) (.nm 4) (dYes) (bo_cells_told_0) [4]) (dNil)))) (dVar 1) (dC .non))))
def m_cells_told : Fn := mkF 5 d_cells_told
abbrev f_cells_told : Fn := s_cells_told
def d_window_at : DS := dSeq (dSet (.nm 2) (dSl (dVar 0) (dPt (dVar 1)) (dPt (dBin pAdd (dVar 1) (dC (.int 122)))))) (dSeq (dIfS (dOrT (dTB (dBin pLt (dApp fLen (dCons (dVar 2) (dNil))) (dC (.int 122)))) (dOrT (dTB (dBin pNe (dBin pIx (dVar 2) (dC (.int 0))) (dC (.str [35])))) (dTB (dBin pNe (dBin pIx (dVar 2) (dUn pNeg (dC (.int 1)))) (dC (.str [59])))))) (dRet (dC .non)) (dSkip)) (dRet (dCall 1 f_cells_told (dCons (dSl (dVar 2) (dPt (dC (.int 1))) (dPt (dUn pNeg (dC (.int 1))))) (dNil)))))
def m_window_at : Fn := mkF 3 d_window_at
abbrev f_window_at : Fn := s_window_at
def bo_is_text_0 : DE := dChain pLe pLe (dC (.str [32])) (dVar 1) (dC (.str [126]))
def d_is_text : DS := dSeq (dIfS (dOrT (dNotT (dTst (dUn (fIsi .str) (dVar 0)))) (dTB (dBin pGt (dApp fLen (dCons (dVar 0) (dNil))) (dC (.int 60000))))) (dRet (dC (.bl false))) (dSkip)) (dRet (dApp fAll (dCons (dLc (dIt (dVar 0)) (.nm 1) (dYes) (bo_is_text_0) [1]) (dNil))))
def m_is_text : Fn := mkF 2 d_is_text
abbrev f_is_text : Fn := s_is_text
def d_require_text : DS := dIfS (dNotT (dTst (dCall 1 f_is_text (dCons (dVar 0) (dNil))))) (dNever) (dSkip)
def m_require_text : Fn := mkF 1 d_require_text
abbrev f_require_text : Fn := s_require_text
def d_is_window : DS := dRet (dAnd (dUn (fIsi .str) (dVar 0)) (dAnd (dBin pEq (dApp fLen (dCons (dVar 0) (dNil))) (dC (.int 122))) (dBin pNotN (dCall 2 f_window_at (dCons (dVar 0) (dCons (dC (.int 0)) (dNil)))) (dC .non))))
def m_is_window : Fn := mkF 1 d_is_window
abbrev f_is_window : Fn := s_is_window
def d_cells_text : DS := dSeq (dIfS (dOrT (dNotT (dTst (dCall 1 f_is_cells (dCons (dVar 0) (dNil))))) (dTB (dBin pGt (dApp fLen (dCons (dVar 0) (dNil))) (dC (.int 20000))))) (dNever) (dSkip)) (dRet (dCall 1 f_text_in (dCons (dVar 0) (dNil))))
def m_cells_text : Fn := mkF 1 d_cells_text
abbrev f_cells_text : Fn := s_cells_text
def d_told_cells : DS := dSeq (dExp (dCall 1 f_require_text (dCons (dVar 0) (dNil)))) (dRet (dCall 1 f_cells_told (dCons (dVar 0) (dNil))))
def m_told_cells : Fn := mkF 1 d_told_cells
def f_told_cells : Fn := m_told_cells
def d_window_text : DS := dSeq (dIfS (dNotT (dTst (dCall 3 f_are_cells_in (dCons (dVar 0) (dCons (dC (.int 40)) (dCons (dC (.int 40)) (dNil))))))) (dNever) (dSkip)) (dRet (dBin pAdd (dBin pAdd (dC (.str [35])) (dCall 1 f_text_in (dCons (dVar 0) (dNil)))) (dC (.str [59]))))
def m_window_text : Fn := mkF 1 d_window_text
abbrev f_window_text : Fn := s_window_text
def d_window_cells : DS := dSeq (dExp (dCall 1 f_require_text (dCons (dVar 0) (dNil)))) (dRet (dIf (dTB (dBin pEq (dApp fLen (dCons (dVar 0) (dNil))) (dC (.int 122)))) (dCall 2 f_window_at (dCons (dVar 0) (dCons (dC (.int 0)) (dNil)))) (dC .non)))
def m_window_cells : Fn := mkF 1 d_window_cells
abbrev f_window_cells : Fn := s_window_cells
def d__law_tray : DS := dSeq (dSet (.nm 2) (dIf (dTB (dBin pLt (dVar 1) (dApp fLen (dCons (dVar 0) (dNil))))) (dApp fIntX (dCons (dBin pIx (dVar 0) (dVar 1)) (dNil))) (dBin pAdd (dBin pMul (dC (.int 271)) (dVar 1)) (dC (.int 73))))) (dSeq (dSet (.nm 3) (dBin pMod (dApp fIntX (dCons (dApp fAbs (dCons (dVar 2) (dNil))) (dNil))) (dBin pPow (dBin pPow (dC (.int 10)) (dC (.int 56))) (dC (.int 6))))) (dRet (dApp fLst (dCons (dApp fMax (dCons (dC (.int 0)) (dCons (dBin pSub (dVar 3) (dBin pPow (dC (.int 10)) (dC (.int 16)))) (dNil)))) (dCons (dBin pAdd (dBin pAdd (dBin pAdd (dBin pMul (dBin pMod (dVar 3) (dC (.int 2305843009213693921))) (dC (.int 97))) (dBin pMul (dC (.int 829)) (dVar 1))) (dBin pMul (dC (.int 37)) (dApp fIntX (dCons (dBin pLt (dVar 2) (dC (.int 0))) (dNil))))) (dC (.int 19))) (dCons (dC (.int 0)) (dNil)))))))
def m__law_tray : Fn := mkF 4 d__law_tray
def f__law_tray : Fn := m__law_tray
def d__law_pluck : DS := dSeq (dIfS (dTB (dBin pGt (dBin pIx (dVar 0) (dC (.int 0))) (dC (.int 0)))) (dSeq (dSet (.nm 4) (dBin pMod (dApp fIntX (dCons (dBin pIx (dVar 0) (dC (.int 0))) (dNil))) (dVar 1))) (dSeq (dSub pSetL (dVar 0) (dC (.int 0)) (dBin pFdiv (dBin pIx (dVar 0) (dC (.int 0))) (dVar 1))) (dRet (dVar 4)))) (dSkip)) (dSeq (dSub pSetL (dVar 0) (dC (.int 2)) (dBin pAdd (dBin pIx (dVar 0) (dC (.int 2))) (dC (.int 1)))) (dSeq (dSet (.nm 2) (dBin pMod (dApp fIntX (dCons (dBin pAdd (dBin pIx (dVar 0) (dC (.int 1))) (dBin pMul (dC (.int 15487469)) (dBin pIx (dVar 0) (dC (.int 2))))) (dNil))) (dC (.int 2305843009213693951)))) (dSeq (dSet (.nm 3) (dBin pAdd (dBin pMul (dBin pMod (dApp fIntX (dCons (dBin pAdd (dBin pMul (dVar 2) (dVar 2)) (dBin pMul (dC (.int 163)) (dBin pIx (dVar 0) (dC (.int 2))))) (dNil))) (dC (.int 2305843009213693907))) (dC (.int 6700417))) (dVar 2))) (dRet (dBin pMod (dApp fIntX (dCons (dBin pFdiv (dVar 3) (dC (.int 65551))) (dNil))) (dVar 1))))))
def m__law_pluck : Fn := mkF 5 d__law_pluck
def f__law_pluck : Fn := m__law_pluck
def d__law_some : DS := dRet (dBin pIx (dVar 1) (dCall 2 f__law_pluck (dCons (dVar 0) (dCons (dApp fLen (dCons (dVar 1) (dNil))) (dNil)))))
def m__law_some : Fn := mkF 2 d__law_some
def f__law_some : Fn := m__law_some
def d__law_three : DS := dRet (dSl (dApp fStrI (dCons (dBin pAdd (dC (.int 1000)) (dVar 0)) (dNil))) (dPt (dC (.int 1))) (dNoP))
def m__law_three : Fn := mkF 1 d__law_three
def f__law_three : Fn := m__law_three
def bo__law_told_0 : DE := dVar 4
def bo__law_told_1 : DS := dSeq (dSet (.nm 3) (dSl (dVar 0) (dPt (dVar 2)) (dPt (dBin pAdd (dVar 2) (dC (.int 3)))))) (dSeq (dIfS (dOrT (dTB (dBin pLt (dApp fLen (dCons (dVar 3) (dNil))) (dC (.int 3)))) (dOrT (dTB (dBin pNe (dLc (dIt (dVar 3)) (.nm 4) (dTB (dBin pNotIn (dVar 4) (dC (.str [48, 49, 50, 51, 52, 53, 54, 55, 56, 57])))) (bo__law_told_0) [4]) (dApp fLst (dNil)))) (dTB (dBin pGt (dApp fIntX (dCons (dVar 3) (dNil))) (dC (.int 996)))))) (dRet (dC .non)) (dSkip)) (dExp (dMet isLst mAppend (dVar 1) (dCons (dApp fIntX (dCons (dVar 3) (dNil))) (dNil)))))
def d__law_told : DS := dSeq (dSet (.nm 1) (dApp fLst (dNil))) (dSeq (dFor (dRng fRng3 (dCons (dC (.int 0)) (dCons (dApp fLen (dCons (dVar 0) (dNil))) (dCons (dC (.int 3)) (dNil))))) (.nm 2) bo__law_told_1) (dRet (dApp fTuple (dCons (dVar 1) (dNil)))))
def m__law_told : Fn := mkF 5 d__law_told
abbrev f__law_told : Fn := s_law_told
def bo__law_window_0 : DE := dCall 1 f__law_three (dCons (dVar 1) (dNil))
def d__law_window : DS := dRet (dBin pAdd (dBin pAdd (dC (.str [35])) (dMet isStr mJoin (dC (.str [])) (dCons (dLc (dIt (dVar 0)) (.nm 1) (dYes) (bo__law_window_0) [1]) (dNil)))) (dC (.str [59])))
def m__law_window : Fn := mkF 2 d__law_window
abbrev f__law_window : Fn := s_law_window
def bo__law_windows_0 : DS := dIfS (dAndT (dTB (dBin pEq (dBin pIx (dVar 0) (dVar 2)) (dC (.str [35])))) (dTB (dBin pEq (dBin pIx (dVar 0) (dBin pAdd (dVar 2) (dC (.int 121)))) (dC (.str [59]))))) (dSeq (dSet (.nm 3) (dCall 1 f__law_told (dCons (dSl (dVar 0) (dPt (dBin pAdd (dVar 2) (dC (.int 1)))) (dPt (dBin pAdd (dVar 2) (dC (.int 121))))) (dNil)))) (dIfS (dTB (dBin pNotN (dVar 3) (dC .non))) (dExp (dMet isLst mAppend (dVar 1) (dCons (dApp fTup (dCons (dVar 2) (dCons (dVar 3) (dNil)))) (dNil)))) (dSkip))) (dSkip)
def d__law_windows : DS := dSeq (dSet (.nm 1) (dApp fLst (dNil))) (dSeq (dFor (dRng fRng1 (dCons (dBin pSub (dApp fLen (dCons (dVar 0) (dNil))) (dC (.int 121))) (dNil))) (.nm 2) bo__law_windows_0) (dRet (dVar 1)))
def m__law_windows : Fn := mkF 4 d__law_windows
def f__law_windows : Fn := m__law_windows
def bo__law_cells_0 : DS := dExp (dMet isLst mAppend (dVar 3) (dCons (dIf (dTB (dBin pEq (dVar 2) (dC (.int 0)))) (dCall 2 f__law_pluck (dCons (dVar 0) (dCons (dC (.int 997)) (dNil)))) (dCall 2 f__law_some (dCons (dVar 0) (dCons (dApp fLst (dCons (dC (.int 0)) (dCons (dC (.int 7)) (dCons (dC (.int 996)) (dCons (dC (.int 99)) (dNil)))))) (dNil))))) (dNil)))
def d__law_cells : DS := dSeq (dPar 2 3 (dCall 2 f__law_pluck (dCons (dVar 0) (dCons (dC (.int 3)) (dNil)))) (dApp fLst (dNil))) (dSeq (dFor (dRng fRng1 (dCons (dC (.int 40)) (dNil))) (.nm 1) bo__law_cells_0) (dRet (dApp fTuple (dCons (dVar 3) (dNil)))))
def m__law_cells : Fn := mkF 4 d__law_cells
def f__law_cells : Fn := m__law_cells
def d__law_bit : DS := dSeq (dPar 2 3 (dCall 1 f__law_window (dCons (dCall 1 f__law_cells (dCons (dVar 0) (dNil))) (dNil))) (dCall 2 f__law_pluck (dCons (dVar 0) (dCons (dC (.int 9)) (dNil))))) (dSeq (dIfS (dTB (dBin pLt (dVar 3) (dC (.int 4)))) (dRet (dVar 2)) (dSkip)) (dSeq (dSet (.nm 1) (dCall 2 f__law_pluck (dCons (dVar 0) (dCons (dC (.int 122)) (dNil))))) (dSeq (dIfS (dTB (dBin pEq (dVar 3) (dC (.int 4)))) (dRet (dSl (dVar 2) (dNoP) (dPt (dVar 1)))) (dSkip)) (dSeq (dIfS (dTB (dBin pEq (dVar 3) (dC (.int 5)))) (dRet (dSl (dVar 2) (dPt (dVar 1)) (dNoP))) (dSkip)) (dSeq (dIfS (dTB (dBin pEq (dVar 3) (dC (.int 6)))) (dRet (dBin pAdd (dBin pAdd (dSl (dVar 2) (dNoP) (dPt (dVar 1))) (dCall 2 f__law_some (dCons (dVar 0) (dCons (dApp fLst (dCons (dC (.str [35])) (dCons (dC (.str [59])) (dCons (dC (.str [57])) (dCons (dC (.str [32])) (dCons (dC (.str [120])) (dCons (dC (.str [])) (dNil)))))))) (dNil))))) (dSl (dVar 2) (dPt (dBin pAdd (dVar 1) (dC (.int 1)))) (dNoP)))) (dSkip)) (dSeq (dIfS (dTB (dBin pEq (dVar 3) (dC (.int 7)))) (dRet (dBin pAdd (dBin pAdd (dSl (dVar 2) (dNoP) (dPt (dVar 1))) (dCall 2 f__law_some (dCons (dVar 0) (dCons (dApp fLst (dCons (dC (.str [48])) (dCons (dC (.str [35])) (dCons (dC (.str [59])) (dCons (dC (.str [57, 57, 55])) (dNil)))))) (dNil))))) (dSl (dVar 2) (dPt (dVar 1)) (dNoP)))) (dSkip)) (dRet (dCall 2 f__law_some (dCons (dVar 0) (dCons (dApp fLst (dCons (dC (.str [])) (dCons (dC (.str [35])) (dCons (dC (.str [59])) (dCons (dC (.str [49, 50])) (dCons (dC (.str [35, 59])) (dCons (dC (.str [126, 32])) (dCons (dC (.str [35, 48, 48, 55])) (dCons (dC (.str [57, 57, 55, 59])) (dNil)))))))))) (dNil)))))))))))
def m__law_bit : Fn := mkF 4 d__law_bit
def f__law_bit : Fn := m__law_bit
def bo__law_drawn_0 : DE := dCall 1 f__law_bit (dCons (dVar 0) (dNil))
def d__law_drawn : DS := dRet (dMet isStr mJoin (dC (.str [])) (dCons (dLc (dRng fRng1 (dCons (dCall 2 f__law_pluck (dCons (dVar 0) (dCons (dBin pAdd (dVar 1) (dC (.int 1))) (dNil)))) (dNil))) (.nm 2) (dYes) (bo__law_drawn_0) [2]) (dNil)))
def m__law_drawn : Fn := mkF 3 d__law_drawn
def f__law_drawn : Fn := m__law_drawn
def d__law_near : DS := dSeq (dSet (.nm 2) (dCall 2 f__law_pluck (dCons (dVar 0) (dCons (dBin pAdd (dApp fLen (dCons (dVar 1) (dNil))) (dC (.int 1))) (dNil))))) (dSeq (dSet (.nm 3) (dApp fLst (dCons (dVar 1) (dCons (dBin pAdd (dVar 1) (dC (.str [48]))) (dCons (dSl (dVar 1) (dNoP) (dPt (dUn pNeg (dC (.int 1))))) (dCons (dSl (dVar 1) (dPt (dC (.int 1))) (dNoP)) (dCons (dUn fRev (dVar 1)) (dCons (dBin pAdd (dC (.str [57, 57, 55])) (dVar 1)) (dCons (dBin pAdd (dBin pAdd (dSl (dVar 1) (dNoP) (dPt (dVar 2))) (dC (.str [57, 57, 55]))) (dSl (dVar 1) (dPt (dVar 2)) (dNoP))) (dNil)))))))))) (dSeq (dSet (.nm 3) (dBin pAdd (dVar 3) (dApp fLst (dCons (dBin pAdd (dBin pAdd (dSl (dVar 1) (dNoP) (dPt (dVar 2))) (dC (.str [32]))) (dSl (dVar 1) (dPt (dVar 2)) (dNoP))) (dCons (dBin pAdd (dBin pAdd (dSl (dVar 1) (dNoP) (dPt (dVar 2))) (dC (.str [45]))) (dSl (dVar 1) (dPt (dBin pAdd (dVar 2) (dC (.int 1)))) (dNoP))) (dCons (dBin pAdd (dBin pAdd (dSl (dVar 1) (dNoP) (dPt (dVar 2))) (dC (.str [48, 48, 48]))) (dSl (dVar 1) (dPt (dVar 2)) (dNoP))) (dNil))))))) (dRet (dBin pAdd (dVar 3) (dApp fLst (dCons (dBin pAdd (dBin pAdd (dSl (dVar 1) (dNoP) (dPt (dVar 2))) (dC (.str [35]))) (dSl (dVar 1) (dPt (dBin pAdd (dVar 2) (dC (.int 1)))) (dNoP))) (dCons (dBin pAdd (dBin pAdd (dSl (dVar 1) (dNoP) (dPt (dVar 2))) (dC (.str [57]))) (dSl (dVar 1) (dPt (dBin pAdd (dVar 2) (dC (.int 1)))) (dNoP))) (dCons (dBin pAdd (dC (.str [32])) (dSl (dVar 1) (dPt (dC (.int 1))) (dNoP))) (dCons (dBin pAdd (dC (.str [43, 49, 50])) (dVar 1)) (dNil))))))))))
def m__law_near : Fn := mkF 4 d__law_near
def f__law_near : Fn := m__law_near
def d__law_is_window : DS := dSeq (dIfS (dOrT (dNotT (dTst (dUn (fIsi .str) (dVar 0)))) (dOrT (dTB (dBin pNe (dApp fLen (dCons (dVar 0) (dNil))) (dC (.int 122)))) (dOrT (dTB (dBin pNe (dBin pIx (dVar 0) (dC (.int 0))) (dC (.str [35])))) (dTB (dBin pNe (dBin pIx (dVar 0) (dUn pNeg (dC (.int 1)))) (dC (.str [59]))))))) (dRet (dC (.bl false))) (dSkip)) (dRet (dBin pNotN (dCall 1 f__law_told (dCons (dSl (dVar 0) (dPt (dC (.int 1))) (dPt (dUn pNeg (dC (.int 1))))) (dNil))) (dC .non)))
def m__law_is_window : Fn := mkF 1 d__law_is_window
abbrev f__law_is_window : Fn := s_law_is_window
def d__law_odd_values : DS := dRet (dApp fLst (dCons (dC .non) (dCons (dC (.int 0)) (dCons (dApp fTup (dNil)) (dCons (dApp fTup (dCons (dC (.str [35])) (dNil))) (dCons (dApp fLst (dCons (dC (.str [35, 48, 48, 55, 59])) (dNil))) (dCons (dDict0) (dCons (dC (.bl true)) (dCons (dBin pPow (dC (.int 10)) (dC (.int 60))) (dCons (dUn pNeg (dC (.int 1))) (dCons (dCall 2 f__law_some (dCons (dVar 0) (dCons (dApp fLst (dCons (dApp fTup (dNil)) (dCons (dApp fLst (dNil)) (dCons (dDict1 [120] 1) (dCons (dApp fTup (dCons (dC (.int 1)) (dCons (dC (.int 2)) (dNil)))) (dNil)))))) (dNil)))) (dNil))))))))))))
def m__law_odd_values : Fn := mkF 1 d__law_odd_values
def f__law_odd_values : Fn := m__law_odd_values
def bo__law_right_0 : DE := dVar 10
def bo__law_right_1 : DS := dSeq (dSet (.nm 7) (dIf (dTst (dCall 1 f__law_is_window (dCons (dVar 4) (dNil)))) (dCall 1 f__law_told (dCons (dSl (dVar 4) (dPt (dC (.int 1))) (dPt (dUn pNeg (dC (.int 1))))) (dNil))) (dC .non))) (dIfS (dOrT (dTB (dBin pNe (dCall 1 f_is_window (dCons (dVar 4) (dNil))) (dCall 1 f__law_is_window (dCons (dVar 4) (dNil))))) (dTB (dBin pNe (dCall 1 f_window_cells (dCons (dVar 4) (dNil))) (dVar 7)))) (dRet (dC (.bl false))) (dSkip))
def bo__law_right_2 : DS := dIfS (dOrT (dTB (dBin pNe (dCall 1 f_told_cells (dCons (dVar 4) (dNil))) (dCall 1 f__law_told (dCons (dVar 4) (dNil))))) (dNotT (dTst (dCall 1 f_is_text (dCons (dVar 4) (dNil)))))) (dRet (dC (.bl false))) (dSkip)
def bo__law_right_3 : DE := dCall 1 f__law_three (dCons (dVar 9) (dNil))
def bo__law_right_4 : DE := dCall 2 f__law_some (dCons (dVar 0) (dCons (dApp fLst (dCons (dC (.int 0)) (dCons (dC (.int 5)) (dCons (dC (.int 99)) (dCons (dC (.int 100)) (dCons (dC (.int 996)) (dCons (dCall 2 f__law_pluck (dCons (dVar 0) (dCons (dC (.int 997)) (dNil)))) (dNil)))))))) (dNil)))
def d__law_right : DS := dSeq (dSet (.nm 1) (dCall 2 f__law_some (dCons (dVar 0) (dCons (dApp fLst (dCons (dC (.int 0)) (dCons (dC (.int 1)) (dCons (dC (.int 2)) (dCons (dC (.int 40)) (dCons (dC (.int 41)) (dCons (dCall 2 f__law_pluck (dCons (dVar 0) (dCons (dC (.int 90)) (dNil)))) (dNil)))))))) (dNil))))) (dSeq (dSet (.nm 2) (dApp fTuple (dCons (dLc (dRng fRng1 (dCons (dVar 1) (dNil))) (.nm 8) (dYes) (bo__law_right_4) [8]) (dNil)))) (dSeq (dSet (.nm 3) (dMet isStr mJoin (dC (.str [])) (dCons (dLc (dIt (dVar 2)) (.nm 9) (dYes) (bo__law_right_3) [9]) (dNil)))) (dSeq (dIfS (dOrT (dTB (dBin pNe (dCall 1 f_cells_text (dCons (dVar 2) (dNil))) (dVar 3))) (dTB (dBin pNe (dCall 1 f_told_cells (dCons (dVar 3) (dNil))) (dVar 2)))) (dRet (dC (.bl false))) (dSkip)) (dSeq (dFor (dIt (dCall 2 f__law_near (dCons (dVar 0) (dCons (dVar 3) (dNil))))) (.nm 4) bo__law_right_2) (dSeq (dSet (.nm 5) (dCall 1 f__law_cells (dCons (dVar 0) (dNil)))) (dSeq (dSet (.nm 6) (dCall 1 f__law_window (dCons (dVar 5) (dNil)))) (dSeq (dIfS (dOrT (dTB (dBin pNe (dCall 1 f_window_text (dCons (dVar 5) (dNil))) (dVar 6))) (dTB (dBin pNe (dCall 1 f_window_cells (dCons (dVar 6) (dNil))) (dVar 5)))) (dRet (dC (.bl false))) (dSkip)) (dSeq (dFor (dIt (dBin pAdd (dCall 2 f__law_near (dCons (dVar 0) (dCons (dVar 6) (dNil)))) (dApp fLst (dCons (dBin pAdd (dSl (dVar 6) (dNoP) (dPt (dC (.int 121)))) (dC (.str [35]))) (dCons (dBin pAdd (dC (.str [59])) (dSl (dVar 6) (dPt (dC (.int 1))) (dNoP))) (dCons (dBin pAdd (dBin pAdd (dC (.str [35])) (dVar 3)) (dC (.str [59]))) (dNil))))))) (.nm 4) bo__law_right_1) (dRet (dBin pEq (dLc (dIt (dCall 1 f__law_odd_values (dCons (dVar 0) (dNil)))) (.nm 10) (dOrT (dTst (dCall 1 f_is_text (dCons (dVar 10) (dNil)))) (dTst (dCall 1 f_is_window (dCons (dVar 10) (dNil))))) (bo__law_right_0) [10]) (dApp fLst (dNil))))))))))))
def m__law_right : Fn := mkF 11 d__law_right
def f__law_right : Fn := m__law_right
def bo_law_0 : DS := dIfS (dNotT (dTst (dCall 1 f__law_right (dCons (dVar 3) (dNil))))) (dRet (dC (.bl false))) (dSkip)
def bo_law_1 : DS := dSeq (dSet (.nm 3) (dCall 2 f__law_tray (dCons (dVar 0) (dCons (dVar 1) (dNil))))) (dFor (dRng fRng1 (dCons (dC (.int 2)) (dNil))) (.nm 4) bo_law_0)
def d_law : DS := dSeq (dFor (dRng fRng1 (dCons (dApp fMax (dCons (dC (.int 1)) (dCons (dApp fMin (dCons (dC (.int 4)) (dCons (dApp fLen (dCons (dVar 0) (dNil))) (dNil)))) (dNil)))) (dNil))) (.nm 1) bo_law_1) (dSeq (dSet (.nm 2) (dApp fLst (dCons (dCall 1 f_cells_text (dCons (dApp fTup (dCons (dC (.int 7)) (dCons (dC (.int 0)) (dCons (dC (.int 996)) (dNil))))) (dNil))) (dCons (dCall 1 f_told_cells (dCons (dC (.str [48, 48, 55, 48, 48, 48, 57, 57, 54])) (dNil))) (dCons (dCall 1 f_told_cells (dCons (dC (.str [57, 57, 55])) (dNil))) (dCons (dCall 1 f_told_cells (dCons (dC (.str [48, 55])) (dNil))) (dCons (dCall 1 f_told_cells (dCons (dC (.str [])) (dNil))) (dNil)))))))) (dSeq (dIfS (dOrT (dTB (dBin pNe (dVar 2) (dApp fLst (dCons (dC (.str [48, 48, 55, 48, 48, 48, 57, 57, 54])) (dCons (dApp fTup (dCons (dC (.int 7)) (dCons (dC (.int 0)) (dCons (dC (.int 996)) (dNil))))) (dCons (dC .non) (dCons (dC .non) (dCons (dApp fTup (dNil)) (dNil))))))))) (dOrT (dNotT (dTst (dCall 1 f_is_text (dCons (dC (.str [32, 126, 35, 59])) (dNil))))) (dNotT (dTst (dCall 1 f_is_text (dCons (dBin pMul (dC (.str [120])) (dC (.int 60000))) (dNil))))))) (dRet (dC (.bl false))) (dSkip)) (dRet (dBin pEq (dCall 1 f_told_cells (dCons (dBin pMul (dC (.str [48])) (dC (.int 60000))) (dNil))) (dBin pMul (dApp fTup (dCons (dC (.int 0)) (dNil))) (dC (.int 20000)))))))
def m_law : Fn := mkF 5 d_law
def f_law : Fn := m_law
def q_d__law_near_0 : DS := dSet (.nm 2) (dCall 2 f__law_pluck (dCons (dVar 0) (dCons (dBin pAdd (dApp fLen (dCons (dVar 1) (dNil))) (dC (.int 1))) (dNil))))
def q_d__law_near_1 : DS := dSet (.nm 3) (dApp fLst (dCons (dVar 1) (dCons (dBin pAdd (dVar 1) (dC (.str [48]))) (dCons (dSl (dVar 1) (dNoP) (dPt (dUn pNeg (dC (.int 1))))) (dCons (dSl (dVar 1) (dPt (dC (.int 1))) (dNoP)) (dCons (dUn fRev (dVar 1)) (dCons (dBin pAdd (dC (.str [57, 57, 55])) (dVar 1)) (dCons (dBin pAdd (dBin pAdd (dSl (dVar 1) (dNoP) (dPt (dVar 2))) (dC (.str [57, 57, 55]))) (dSl (dVar 1) (dPt (dVar 2)) (dNoP))) (dNil)))))))))
def q_d__law_near_2 : DS := dSet (.nm 3) (dBin pAdd (dVar 3) (dApp fLst (dCons (dBin pAdd (dBin pAdd (dSl (dVar 1) (dNoP) (dPt (dVar 2))) (dC (.str [32]))) (dSl (dVar 1) (dPt (dVar 2)) (dNoP))) (dCons (dBin pAdd (dBin pAdd (dSl (dVar 1) (dNoP) (dPt (dVar 2))) (dC (.str [45]))) (dSl (dVar 1) (dPt (dBin pAdd (dVar 2) (dC (.int 1)))) (dNoP))) (dCons (dBin pAdd (dBin pAdd (dSl (dVar 1) (dNoP) (dPt (dVar 2))) (dC (.str [48, 48, 48]))) (dSl (dVar 1) (dPt (dVar 2)) (dNoP))) (dNil))))))
def t_d__law_near_3 : DS := dRet (dBin pAdd (dVar 3) (dApp fLst (dCons (dBin pAdd (dBin pAdd (dSl (dVar 1) (dNoP) (dPt (dVar 2))) (dC (.str [35]))) (dSl (dVar 1) (dPt (dBin pAdd (dVar 2) (dC (.int 1)))) (dNoP))) (dCons (dBin pAdd (dBin pAdd (dSl (dVar 1) (dNoP) (dPt (dVar 2))) (dC (.str [57]))) (dSl (dVar 1) (dPt (dBin pAdd (dVar 2) (dC (.int 1)))) (dNoP))) (dCons (dBin pAdd (dC (.str [32])) (dSl (dVar 1) (dPt (dC (.int 1))) (dNoP))) (dCons (dBin pAdd (dC (.str [43, 49, 50])) (dVar 1)) (dNil)))))))
def t_d__law_near_2 : DS := dSeq q_d__law_near_2 t_d__law_near_3
def t_d__law_near_1 : DS := dSeq q_d__law_near_1 t_d__law_near_2
def t_d__law_near_0 : DS := dSeq q_d__law_near_0 t_d__law_near_1
theorem t_d__law_near : d__law_near = t_d__law_near_0 := rfl
def q_d__law_right_0 : DS := dSet (.nm 1) (dCall 2 f__law_some (dCons (dVar 0) (dCons (dApp fLst (dCons (dC (.int 0)) (dCons (dC (.int 1)) (dCons (dC (.int 2)) (dCons (dC (.int 40)) (dCons (dC (.int 41)) (dCons (dCall 2 f__law_pluck (dCons (dVar 0) (dCons (dC (.int 90)) (dNil)))) (dNil)))))))) (dNil))))
def q_d__law_right_1 : DS := dSet (.nm 2) (dApp fTuple (dCons (dLc (dRng fRng1 (dCons (dVar 1) (dNil))) (.nm 8) (dYes) (bo__law_right_4) [8]) (dNil)))
def q_d__law_right_2 : DS := dSet (.nm 3) (dMet isStr mJoin (dC (.str [])) (dCons (dLc (dIt (dVar 2)) (.nm 9) (dYes) (bo__law_right_3) [9]) (dNil)))
def q_d__law_right_3 : DS := dIfS (dOrT (dTB (dBin pNe (dCall 1 f_cells_text (dCons (dVar 2) (dNil))) (dVar 3))) (dTB (dBin pNe (dCall 1 f_told_cells (dCons (dVar 3) (dNil))) (dVar 2)))) (dRet (dC (.bl false))) (dSkip)
def q_d__law_right_4 : DS := dFor (dIt (dCall 2 f__law_near (dCons (dVar 0) (dCons (dVar 3) (dNil))))) (.nm 4) bo__law_right_2
def q_d__law_right_5 : DS := dSet (.nm 5) (dCall 1 f__law_cells (dCons (dVar 0) (dNil)))
def q_d__law_right_6 : DS := dSet (.nm 6) (dCall 1 f__law_window (dCons (dVar 5) (dNil)))
def q_d__law_right_7 : DS := dIfS (dOrT (dTB (dBin pNe (dCall 1 f_window_text (dCons (dVar 5) (dNil))) (dVar 6))) (dTB (dBin pNe (dCall 1 f_window_cells (dCons (dVar 6) (dNil))) (dVar 5)))) (dRet (dC (.bl false))) (dSkip)
def q_d__law_right_8 : DS := dFor (dIt (dBin pAdd (dCall 2 f__law_near (dCons (dVar 0) (dCons (dVar 6) (dNil)))) (dApp fLst (dCons (dBin pAdd (dSl (dVar 6) (dNoP) (dPt (dC (.int 121)))) (dC (.str [35]))) (dCons (dBin pAdd (dC (.str [59])) (dSl (dVar 6) (dPt (dC (.int 1))) (dNoP))) (dCons (dBin pAdd (dBin pAdd (dC (.str [35])) (dVar 3)) (dC (.str [59]))) (dNil))))))) (.nm 4) bo__law_right_1
def t_d__law_right_9 : DS := dRet (dBin pEq (dLc (dIt (dCall 1 f__law_odd_values (dCons (dVar 0) (dNil)))) (.nm 10) (dOrT (dTst (dCall 1 f_is_text (dCons (dVar 10) (dNil)))) (dTst (dCall 1 f_is_window (dCons (dVar 10) (dNil))))) (bo__law_right_0) [10]) (dApp fLst (dNil)))
def t_d__law_right_8 : DS := dSeq q_d__law_right_8 t_d__law_right_9
def t_d__law_right_7 : DS := dSeq q_d__law_right_7 t_d__law_right_8
def t_d__law_right_6 : DS := dSeq q_d__law_right_6 t_d__law_right_7
def t_d__law_right_5 : DS := dSeq q_d__law_right_5 t_d__law_right_6
def t_d__law_right_4 : DS := dSeq q_d__law_right_4 t_d__law_right_5
def t_d__law_right_3 : DS := dSeq q_d__law_right_3 t_d__law_right_4
def t_d__law_right_2 : DS := dSeq q_d__law_right_2 t_d__law_right_3
def t_d__law_right_1 : DS := dSeq q_d__law_right_1 t_d__law_right_2
def t_d__law_right_0 : DS := dSeq q_d__law_right_0 t_d__law_right_1
theorem t_d__law_right : d__law_right = t_d__law_right_0 := rfl
def q_d_law_0 : DS := dFor (dRng fRng1 (dCons (dApp fMax (dCons (dC (.int 1)) (dCons (dApp fMin (dCons (dC (.int 4)) (dCons (dApp fLen (dCons (dVar 0) (dNil))) (dNil)))) (dNil)))) (dNil))) (.nm 1) bo_law_1
def q_d_law_1 : DS := dSet (.nm 2) (dApp fLst (dCons (dCall 1 f_cells_text (dCons (dApp fTup (dCons (dC (.int 7)) (dCons (dC (.int 0)) (dCons (dC (.int 996)) (dNil))))) (dNil))) (dCons (dCall 1 f_told_cells (dCons (dC (.str [48, 48, 55, 48, 48, 48, 57, 57, 54])) (dNil))) (dCons (dCall 1 f_told_cells (dCons (dC (.str [57, 57, 55])) (dNil))) (dCons (dCall 1 f_told_cells (dCons (dC (.str [48, 55])) (dNil))) (dCons (dCall 1 f_told_cells (dCons (dC (.str [])) (dNil))) (dNil)))))))
def q_d_law_2 : DS := dIfS (dOrT (dTB (dBin pNe (dVar 2) (dApp fLst (dCons (dC (.str [48, 48, 55, 48, 48, 48, 57, 57, 54])) (dCons (dApp fTup (dCons (dC (.int 7)) (dCons (dC (.int 0)) (dCons (dC (.int 996)) (dNil))))) (dCons (dC .non) (dCons (dC .non) (dCons (dApp fTup (dNil)) (dNil))))))))) (dOrT (dNotT (dTst (dCall 1 f_is_text (dCons (dC (.str [32, 126, 35, 59])) (dNil))))) (dNotT (dTst (dCall 1 f_is_text (dCons (dBin pMul (dC (.str [120])) (dC (.int 60000))) (dNil))))))) (dRet (dC (.bl false))) (dSkip)
def t_d_law_3 : DS := dRet (dBin pEq (dCall 1 f_told_cells (dCons (dBin pMul (dC (.str [48])) (dC (.int 60000))) (dNil))) (dBin pMul (dApp fTup (dCons (dC (.int 0)) (dNil))) (dC (.int 20000))))
def t_d_law_2 : DS := dSeq q_d_law_2 t_d_law_3
def t_d_law_1 : DS := dSeq q_d_law_1 t_d_law_2
def t_d_law_0 : DS := dSeq q_d_law_0 t_d_law_1
theorem t_d_law : d_law = t_d_law_0 := rfl
end K09
end
section
set_option maxRecDepth 100000
set_option maxHeartbeats 4000000
namespace K09
open PySem PySem.Spec PyProof.Rows L2 Mi
theorem pluck_ok {w n : Nat} {st : Sto} {m : Int} (h : Well w n st) (hn : n ≤ 100000) (hm : 0 < m) (hm2 : m ≤ 100000) : ∃ r st', f__law_pluck [.ref w, .int m] st = .ok (.int r) st' ∧ 0 ≤ r ∧ r < m ∧ Well w (n + 1) st' ∧ Same w st st' := by
  obtain ⟨a, b, c, hg, c0, cn, hz⟩ := h
  have l0 := lst_of hg
  have hw : w < st.length := (List.getElem?_eq_some_iff.mp hg).1
  have i0 := e_ixR (i := 0) l0 rfl
  have i1 := e_ixR (i := 1) l0 rfl
  have i2 := e_ixR (i := 2) l0 rfl
  have hcd : cDiv a m = true := by
    unfold cDiv
    rw [decide_eq_true hm, Bool.true_and]
    refine decide_eq_true ?_
    have := log_small (x := m) (k := 17) (by omega)
    omega
  by_cases ha : 0 < a
  · refine ⟨a % m, st.set w (.lst [.int (a / m), .int b, .int c]), ?_, Int.emod_nonneg _ (by omega), Int.emod_lt_of_pos _ hm, ⟨a / m, b, c, List.getElem?_set_self hw, c0, by omega, hz.set (hz.ne0 hg)⟩, Same.set⟩
    simp only [f__law_pluck, m__law_pluck, d__law_pluck, mkF, env0, dSeq, dSet, dIfS, dRet, dRetN, dExp, dBin, dUn, dVar, dC, dCons, dNil, dApp, dMet, dCall, dCallV, b_ok, b_bad, s_ok, f_rt, f_nx, dTB, dTst, dNotT, dOrT, dAndT, dAnd, dOr, dNot, dChain, dIf, dSkip, dNever, Tg.set, e_le, e_lt, e_ge, e_gt, e_add, e_sub, List.map_cons, List.map_nil, List.length_cons, List.length_nil, List.replicate, List.cons_append, List.nil_append, List.append_nil, List.getElem?_cons_zero, List.getElem?_cons_succ, List.set_cons_zero, List.set_cons_succ, Nat.sub_self, Nat.reduceSub, Nat.reduceAdd, wipeE, i0, ha, decide_true, e_intX, e_mod _ hm, dSub, e_fdiv _ hcd]
    rw [e_setL hg rfl]
    rfl
  · have hc2 : ((c + 1 : Int)).natAbs ≤ 2 ^ 20 := by omega
    have g2 : (st.set w (.lst [.int a, .int b, .int (c + 1)]))[w]? = some (.lst [.int a, .int b, .int (c + 1)]) := List.getElem?_set_self hw
    have j1 := e_ixR (i := 1) (lst_of g2) rfl
    have j2 := e_ixR (i := 2) (lst_of g2) rfl
    have m1 := e_mul (st.set w (.lst [.int a, .int b, .int (c + 1)])) (cMul_small (x := 15487469) (y := c + 1) (k := 26) (l := 20) (by decide) hc2 (by decide))
    have hM : (0 : Int) < 2305843009213693951 := by decide
    have o1 := Int.emod_nonneg (b + 15487469 * (c + 1)) (show (2305843009213693951 : Int) ≠ 0 by decide)
    have o2 := Int.emod_lt_of_pos (b + 15487469 * (c + 1)) hM
    generalize ho : (b + 15487469 * (c + 1)) % 2305843009213693951 = one at o1 o2
    have m2 := e_mul (st.set w (.lst [.int a, .int b, .int (c + 1)])) (cMul_small (x := one) (y := one) (k := 61) (l := 61) (by omega) (by omega) (by decide))
    have m5 := e_mul (st.set w (.lst [.int a, .int b, .int (c + 1)])) (cMul_small (x := 163) (y := c + 1) (k := 8) (l := 20) (by decide) hc2 (by decide))
    have hN : (0 : Int) < 2305843009213693907 := by decide
    have q1 := Int.emod_nonneg (one * one + 163 * (c + 1)) (show (2305843009213693907 : Int) ≠ 0 by decide)
    have q2 := Int.emod_lt_of_pos (one * one + 163 * (c + 1)) hN
    have m3 := e_mul (st.set w (.lst [.int a, .int b, .int (c + 1)])) (cMul_small (x := (one * one + 163 * (c + 1)) % 2305843009213693907) (y := 6700417) (k := 61) (l := 23) (by omega) (by decide) (by decide))
    have fd : ∀ (x : Int) (s : Sto), pFdiv (.int x) (.int 65551) s = .ok (.int (x / 65551)) s := fun x s => e_fdiv s rfl
    refine ⟨((one * one + 163 * (c + 1)) % 2305843009213693907 * 6700417 + one) / 65551 % m, st.set w (.lst [.int a, .int b, .int (c + 1)]), ?_, Int.emod_nonneg _ (by omega), Int.emod_lt_of_pos _ hm, ⟨a, b, c + 1, g2, by omega, by omega, hz.set (hz.ne0 hg)⟩, Same.set⟩
    simp only [f__law_pluck, m__law_pluck, d__law_pluck, mkF, env0, dSeq, dSet, dIfS, dRet, dRetN, dExp, dBin, dUn, dVar, dC, dCons, dNil, dApp, dMet, dCall, dCallV, b_ok, b_bad, s_ok, f_rt, f_nx, dTB, dTst, dNotT, dOrT, dAndT, dAnd, dOr, dNot, dChain, dIf, dSkip, dNever, Tg.set, e_le, e_lt, e_ge, e_gt, e_add, e_sub, List.map_cons, List.map_nil, List.length_cons, List.length_nil, List.replicate, List.cons_append, List.nil_append, List.append_nil, List.getElem?_cons_zero, List.getElem?_cons_succ, List.set_cons_zero, List.set_cons_succ, Nat.sub_self, Nat.reduceSub, Nat.reduceAdd, wipeE, i0, i2, ha, decide_false, e_intX, dSub]
    rw [e_setL (m := 2) hg rfl]
    simp only [List.set_cons_succ, List.set_cons_zero, mkF, env0, dSeq, dSet, dIfS, dRet, dRetN, dExp, dBin, dUn, dVar, dC, dCons, dNil, dApp, dMet, dCall, dCallV, b_ok, b_bad, s_ok, f_rt, f_nx, dTB, dTst, dNotT, dOrT, dAndT, dAnd, dOr, dNot, dChain, dIf, dSkip, dNever, Tg.set, e_le, e_lt, e_ge, e_gt, e_add, e_sub, List.map_cons, List.map_nil, List.length_cons, List.length_nil, List.replicate, List.cons_append, List.nil_append, List.append_nil, List.getElem?_cons_zero, List.getElem?_cons_succ, List.set_cons_zero, List.set_cons_succ, Nat.sub_self, Nat.reduceSub, Nat.reduceAdd, wipeE, j1, j2, m1, m5, e_intX, e_mod _ hM, e_mod _ hN, ho, m2, m3, fd, e_mod _ hm]
theorem some_ok {w n k : Nat} {st : Sto} {xs : List PV} (h : Well w n st) (hn : n ≤ 100000) (hk : st[k]? = some (.lst xs)) (hkw : k ≠ w) (h0 : xs ≠ []) (hl : xs.length ≤ 1000) : ∃ y st', f__law_some [.ref w, .ref k] st = .ok y st' ∧ y ∈ xs ∧ Well w (n + 1) st' ∧ Same w st st' := by
  have hp : 0 < xs.length := List.length_pos_iff.mpr h0
  obtain ⟨r, st', e, r0, r1, hw, hs⟩ := pluck_ok (m := xs.length) h hn (by omega) (by omega)
  have hk' : st'[k]? = some (.lst xs) := (hs.2 k hkw).trans hk
  have hr : r.toNat < xs.length := by omega
  refine ⟨xs[r.toNat], st', ?_, List.getElem_mem hr, hw, hs⟩
  have hat : atI xs r = some xs[r.toNat] := by
    unfold atI ixN
    rw [if_pos r0, if_pos r1]
    show xs[r.toNat]? = _
    rw [List.getElem?_eq_getElem hr]
  simp only [f__law_some, m__law_some, d__law_some, mkF, env0, dSeq, dSet, dIfS, dRet, dRetN, dExp, dBin, dUn, dVar, dC, dCons, dNil, dApp, dMet, dCall, dCallV, b_ok, b_bad, s_ok, f_rt, f_nx, dTB, dTst, dNotT, dOrT, dAndT, dAnd, dOr, dNot, dChain, dIf, dSkip, dNever, Tg.set, e_le, e_lt, e_ge, e_gt, e_add, e_sub, List.map_cons, List.map_nil, List.length_cons, List.length_nil, List.replicate, List.cons_append, List.nil_append, List.append_nil, List.getElem?_cons_zero, List.getElem?_cons_succ, List.set_cons_zero, List.set_cons_succ, Nat.sub_self, Nat.reduceSub, Nat.reduceAdd, wipeE, Nat.beq, if_true, e_lenR (lst_of hk), e]
  rw [e_ixR (lst_of hk') hat]
  rfl

theorem tray_ok {st : Sto} {i : Nat} (h : Fz st) (hi : i < 4) : ∃ w st', f__law_tray [.ref 0, .int i] st = .ok (.ref w) st' ∧ Well w 0 st' := by
  obtain ⟨ns, hz⟩ := h
  have l0 : lstAt st 0 = some (ns.map .int) := by
    unfold lstAt
    rw [hz]
  have p1 : ∀ s, pPow (.int 10) (.int 56) s = .ok (.int (10 ^ 56)) s := fun s => by kernel_rfl
  have p2 : ∀ s, pPow (.int (10 ^ 56)) (.int 6) s = .ok (.int ((10 ^ 56) ^ 6)) s := fun s => by kernel_rfl
  have p3 : ∀ s, pPow (.int 10) (.int 16) s = .ok (.int (10 ^ 16)) s := fun s => by kernel_rfl
  have hM : (0 : Int) < (10 ^ 56) ^ 6 := by decide +kernel
  have m7 : ∀ s, pMul (.int 829) (.int i) s = .ok (.int (829 * i)) s := fun s => e_mul s (cMul_small (x := 829) (y := i) (k := 10) (l := 3) (by decide) (by omega) (by decide))
  have m8 : ∀ s, pMul (.int 271) (.int i) s = .ok (.int (271 * i)) s := fun s => e_mul s (cMul_small (x := 271) (y := i) (k := 10) (l := 3) (by decide) (by omega) (by decide))
  have m5 : ∀ (b : Bool) s, pMul (.int 37) (.int (if b then 1 else 0)) s = .ok (.int (37 * (if b then 1 else 0))) s := fun b s => e_mul s (by cases b <;> rfl)
  have f3 : ∀ (p q r : PV) (s : Sto), fLst [p, q, r] s = .ok (.ref s.length) (s ++ [.lst [p, q, r]]) := fun p q r s => rfl
  have key : ∀ (v : Int), ∃ a b : Int, dSeq (dSet (.nm 3) (dBin pMod (dApp fIntX (dCons (dApp fAbs (dCons (dVar 2) (dNil))) (dNil))) (dBin pPow (dBin pPow (dC (.int 10)) (dC (.int 56))) (dC (.int 6))))) (dRet (dApp fLst (dCons (dApp fMax (dCons (dC (.int 0)) (dCons (dBin pSub (dVar 3) (dBin pPow (dC (.int 10)) (dC (.int 16)))) (dNil)))) (dCons (dBin pAdd (dBin pAdd (dBin pAdd (dBin pMul (dBin pMod (dVar 3) (dC (.int 2305843009213693921))) (dC (.int 97))) (dBin pMul (dC (.int 829)) (dVar 1))) (dBin pMul (dC (.int 37)) (dApp fIntX (dCons (dBin pLt (dVar 2) (dC (.int 0))) (dNil))))) (dC (.int 19))) (dCons (dC (.int 0)) (dNil)))))) noTh [some (.ref 0), some (.int i), some (.int v), none] st = .rt (.ref st.length) (st ++ [.lst [.int a, .int b, .int 0]]) := by
    intro v
    have q1 := Int.emod_nonneg ((if v < 0 then -v else v) % (10 ^ 56) ^ 6) (show (2305843009213693921 : Int) ≠ 0 by decide)
    have q2 := Int.emod_lt_of_pos ((if v < 0 then -v else v) % (10 ^ 56) ^ 6) (show (0 : Int) < 2305843009213693921 by decide)
    generalize hg : (if v < 0 then -v else v) % (10 ^ 56) ^ 6 = g at q1 q2
    have m6 : ∀ s, pMul (.int (g % 2305843009213693921)) (.int 97) s = .ok (.int (g % 2305843009213693921 * 97)) s := fun s => e_mul s (cMul_small (x := g % 2305843009213693921) (y := 97) (k := 61) (l := 7) (by omega) (by decide) (by decide))
    refine ⟨if g - 10 ^ 16 > 0 then g - 10 ^ 16 else 0, g % 2305843009213693921 * 97 + 829 * i + 37 * (if decide (v < 0) then 1 else 0) + 19, ?_⟩
    simp only [mkF, env0, dSeq, dSet, dIfS, dRet, dRetN, dExp, dBin, dUn, dVar, dC, dCons, dNil, dApp, dMet, dCall, dCallV, b_ok, b_bad, s_ok, f_rt, f_nx, dTB, dTst, dNotT, dOrT, dAndT, dAnd, dOr, dNot, dChain, dIf, dSkip, dNever, Tg.set, e_le, e_lt, e_ge, e_gt, e_add, e_sub, List.map_cons, List.map_nil, List.length_cons, List.length_nil, List.replicate, List.cons_append, List.nil_append, List.append_nil, List.getElem?_cons_zero, List.getElem?_cons_succ, List.set_cons_zero, List.set_cons_succ, Nat.sub_self, Nat.reduceSub, Nat.reduceAdd, wipeE, e_abs, e_intX, p1, p2, e_mod _ hM, hg, e_mod _ (show (0 : Int) < 2305843009213693921 by decide), m6, m7, e_intXb, m5, p3, e_max2, f3]
  have le := e_lenR l0
  rw [List.length_map] at le
  by_cases hl : (i : Int) < ns.length
  · have hn : i < ns.length := by omega
    have ix := e_ixR (i := (i : Int)) (v := .int ns[i]) l0 (by
      unfold atI ixN
      rw [List.length_map, if_pos (by omega), if_pos (by omega)]
      show (ns.map PV.int)[i]? = _
      rw [List.getElem?_map, List.getElem?_eq_getElem hn]
      rfl)
    obtain ⟨a, b, e⟩ := key ns[i]
    refine ⟨_, _, mk_seq (A := dSet (.nm 2) (dIf (dTB (dBin pLt (dVar 1) (dApp fLen (dCons (dVar 0) (dNil))))) (dApp fIntX (dCons (dBin pIx (dVar 0) (dVar 1)) (dNil))) (dBin pAdd (dBin pMul (dC (.int 271)) (dVar 1)) (dC (.int 73))))) ?_ e, ⟨a, b, 0, get_end st _ [], Int.le_refl _, Int.le_refl _, Fz.app ⟨ns, hz⟩⟩⟩
    simp only [mkF, env0, dSeq, dSet, dIfS, dRet, dRetN, dExp, dBin, dUn, dVar, dC, dCons, dNil, dApp, dMet, dCall, dCallV, b_ok, b_bad, s_ok, f_rt, f_nx, dTB, dTst, dNotT, dOrT, dAndT, dAnd, dOr, dNot, dChain, dIf, dSkip, dNever, Tg.set, e_le, e_lt, e_ge, e_gt, e_add, e_sub, List.map_cons, List.map_nil, List.length_cons, List.length_nil, List.replicate, List.cons_append, List.nil_append, List.append_nil, List.getElem?_cons_zero, List.getElem?_cons_succ, List.set_cons_zero, List.set_cons_succ, Nat.sub_self, Nat.reduceSub, Nat.reduceAdd, wipeE, le, hl, decide_true, ix, e_intX]
  · obtain ⟨a, b, e⟩ := key (271 * i + 73)
    refine ⟨_, _, mk_seq (A := dSet (.nm 2) (dIf (dTB (dBin pLt (dVar 1) (dApp fLen (dCons (dVar 0) (dNil))))) (dApp fIntX (dCons (dBin pIx (dVar 0) (dVar 1)) (dNil))) (dBin pAdd (dBin pMul (dC (.int 271)) (dVar 1)) (dC (.int 73))))) ?_ e, ⟨a, b, 0, get_end st _ [], Int.le_refl _, Int.le_refl _, Fz.app ⟨ns, hz⟩⟩⟩
    simp only [mkF, env0, dSeq, dSet, dIfS, dRet, dRetN, dExp, dBin, dUn, dVar, dC, dCons, dNil, dApp, dMet, dCall, dCallV, b_ok, b_bad, s_ok, f_rt, f_nx, dTB, dTst, dNotT, dOrT, dAndT, dAnd, dOr, dNot, dChain, dIf, dSkip, dNever, Tg.set, e_le, e_lt, e_ge, e_gt, e_add, e_sub, List.map_cons, List.map_nil, List.length_cons, List.length_nil, List.replicate, List.cons_append, List.nil_append, List.append_nil, List.getElem?_cons_zero, List.getElem?_cons_succ, List.set_cons_zero, List.set_cons_succ, Nat.sub_self, Nat.reduceSub, Nat.reduceAdd, wipeE, le, hl, decide_false, m8]

theorem three_txt : ∀ c : Nat, c < 1000 → ofS (Txt.slice (toS (ofS (toString (1000 + (c : Int))))) (some 1) none) = dg c ∧ szOk (ofS (toString (1000 + (c : Int)))).length = true ∧ (1000 + (c : Int)).natAbs.log2 < 1920 := by
  have h : ((List.range 1000).all fun c => decide (ofS (Txt.slice (toS (ofS (toString (1000 + (c : Int))))) (some 1) none) = dg c ∧ szOk (ofS (toString (1000 + (c : Int)))).length = true ∧ (1000 + (c : Int)).natAbs.log2 < 1920)) = true := by decide +kernel
  intro c hc
  exact of_decide_eq_true (List.all_eq_true.mp h c (List.mem_range.mpr hc))
theorem three_ok {c : Nat} (hc : c < 1000) (st : Sto) : f__law_three [.int c] st = .ok (.str (dg c)) st := by
  obtain ⟨h1, h2, h3⟩ := three_txt c hc
  have e1 : fStrI [.int (1000 + (c : Int))] st = .ok (.str (ofS (toString (1000 + (c : Int))))) st := by
    unfold fStrI
    dsimp only
    rw [if_pos (decide_eq_true h3)]
  have e2 : fSl (.str (ofS (toString (1000 + (c : Int))))) (some 1) none st = .ok (.str (dg c)) st := by
    unfold fSl
    dsimp only
    rw [if_pos h2, h1]
  simp only [f__law_three, m__law_three, d__law_three, mkF, env0, dSeq, dSet, dIfS, dRet, dRetN, dExp, dBin, dUn, dVar, dC, dCons, dNil, dApp, dMet, dCall, dCallV, b_ok, b_bad, s_ok, f_rt, f_nx, dTB, dTst, dNotT, dOrT, dAndT, dAnd, dOr, dNot, dChain, dIf, dSkip, dNever, Tg.set, e_le, e_lt, e_ge, e_gt, e_add, e_sub, List.map_cons, List.map_nil, List.length_cons, List.length_nil, List.replicate, List.cons_append, List.nil_append, List.append_nil, List.getElem?_cons_zero, List.getElem?_cons_succ, List.set_cons_zero, List.set_cons_succ, Nat.sub_self, Nat.reduceSub, Nat.reduceAdd, wipeE, dSl, dPt, dNoP, e1, e2]

theorem le1 (a c : Nat) : (!decide (([c] : List Nat) < [a])) = decide (a ≤ c) := by
  have h : (([c] : List Nat) < [a]) ↔ c < a := by
    rw [List.cons_lt_cons_iff]
    simp
  by_cases k : a ≤ c
  · rw [decide_eq_true k, decide_eq_false (by rw [h]; omega)]
    rfl
  · rw [decide_eq_false k, decide_eq_true (by rw [h]; omega)]
    rfl
theorem e_le1 (a c : Nat) (st : Sto) : pLe (.str [a]) (.str [c]) st = .ok (.bl (decide (a ≤ c))) st := by
  show Res.ok (PV.bl (!decide (([c] : List Nat) < [a]))) st = _
  rw [le1]
theorem all_true {α : Type} (xs : List α) : xs.filter (fun _ => true) = xs := by simp
theorem is_text_ok {x : List Nat} (hl : x.length ≤ 60000) (st : Sto) : m_is_text [.str x] st = .ok (.bl (x.all sgB)) (st ++ [.lst (x.map fun c => .bl (sgB c))]) := by
  have hi : fIsi .str (.str x) st = .ok (.bl true) st := rfl
  have hz : szOk x.length = true := Nat.ble_eq_true_of_le (by omega)
  have hc : ¬ ((x.length : Int) > 60000) := by omega
  have hle := dLc_vals (it := dIt (dVar 0)) (i := 1) (ts := dYes) (el := bo_is_text_0) (p := fun _ => true) (h := fun q => .bl (match q with | .str [c] => sgB c | _ => false)) (own := [1]) (th := noTh) (env := [some (.str x), none]) (st := st) (s := st) (xs := x.map fun c => .str [c]) rfl (by rw [List.length_map]; omega) (fun _ _ _ => rfl) (fun q hq _ acc => by
    obtain ⟨c, _, rfl⟩ := List.mem_map.mp hq
    simp only [bo_is_text_0, dChain, mkF, env0, dSeq, dSet, dIfS, dRet, dRetN, dExp, dBin, dUn, dVar, dC, dCons, dNil, dApp, dMet, dCall, dCallV, b_ok, b_bad, s_ok, f_rt, f_nx, dTB, dTst, dNotT, dOrT, dAndT, dAnd, dOr, dNot, dChain, dIf, dSkip, dNever, Tg.set, e_le, e_lt, e_ge, e_gt, e_add, e_sub, List.map_cons, List.map_nil, List.length_cons, List.length_nil, List.replicate, List.cons_append, List.nil_append, List.append_nil, List.getElem?_cons_zero, List.getElem?_cons_succ, List.set_cons_zero, List.set_cons_succ, Nat.sub_self, Nat.reduceSub, Nat.reduceAdd, wipeE, e_le1]
    by_cases h1 : 32 ≤ c
    · simp only [h1, decide_true, mkF, env0, dSeq, dSet, dIfS, dRet, dRetN, dExp, dBin, dUn, dVar, dC, dCons, dNil, dApp, dMet, dCall, dCallV, b_ok, b_bad, s_ok, f_rt, f_nx, dTB, dTst, dNotT, dOrT, dAndT, dAnd, dOr, dNot, dChain, dIf, dSkip, dNever, Tg.set, e_le, e_lt, e_ge, e_gt, e_add, e_sub, List.map_cons, List.map_nil, List.length_cons, List.length_nil, List.replicate, List.cons_append, List.nil_append, List.append_nil, List.getElem?_cons_zero, List.getElem?_cons_succ, List.set_cons_zero, List.set_cons_succ, Nat.sub_self, Nat.reduceSub, Nat.reduceAdd, wipeE, e_le1, sgB, Bool.true_and]
    · simp only [h1, decide_false, sgB, Bool.false_and])
  rw [all_true, List.map_map] at hle
  have hle2 : dLc (dIt (dVar 0)) (.nm 1) dYes bo_is_text_0 [1] noTh [some (.str x), none] st = .ok (.ref st.length) (st ++ [.lst (x.map fun c => .bl (sgB c))]) := hle
  simp only [m_is_text, d_is_text, mkF, env0, dSeq, dSet, dIfS, dRet, dRetN, dExp, dBin, dUn, dVar, dC, dCons, dNil, dApp, dMet, dCall, dCallV, b_ok, b_bad, s_ok, f_rt, f_nx, dTB, dTst, dNotT, dOrT, dAndT, dAnd, dOr, dNot, dChain, dIf, dSkip, dNever, Tg.set, e_le, e_lt, e_ge, e_gt, e_add, e_sub, List.map_cons, List.map_nil, List.length_cons, List.length_nil, List.replicate, List.cons_append, List.nil_append, List.append_nil, List.getElem?_cons_zero, List.getElem?_cons_succ, List.set_cons_zero, List.set_cons_succ, Nat.sub_self, Nat.reduceSub, Nat.reduceAdd, wipeE, hi, pTru, Bool.not_true, e_len _ hz, hc, decide_false, hle2]
  rw [e_all (lst_end _ _ _) (bls_map sgB x), List.all_map]
  rfl
theorem okT_of {x : List Nat} (h : okT x = true) : x.length ≤ 60000 ∧ x.all sgB = true ∧ szOk x.length = true := by
  unfold okT at h
  rw [Bool.and_eq_true] at h
  have h1 := Nat.le_of_ble_eq_true h.1
  exact ⟨h1, h.2, Nat.ble_eq_true_of_le (by omega)⟩
theorem three_of : ∀ {y : List Nat}, y.length = 3 → ∃ p q r, y = [p, q, r]
  | [p, q, r], _ => ⟨p, q, r, rfl⟩
theorem int_three {y : List Nat} (hl : y.length = 3) (hd : ∀ c ∈ y, 48 ≤ c ∧ c ≤ 57) (st : Sto) : fIntX [.str y] st = .ok (.int (v3 y)) st := by
  obtain ⟨p, q, r, rfl⟩ := three_of hl
  have hp := hd p (by simp)
  have hq := hd q (by simp)
  have hr := hd r (by simp)
  have e := int3 (p - 48) (q - 48) (r - 48) (by omega) (by omega) (by omega)
  rw [show 48 + (p - 48) = p by omega, show 48 + (q - 48) = q by omega, show 48 + (r - 48) = r by omega] at e
  unfold fIntX
  dsimp only
  rw [if_pos (show [p, q, r].length.ble 640 = true from rfl), e]
  rfl
theorem cut_three {x : List Nat} {i : Nat} (h : 3 * i + 3 ≤ x.length) : ((x.drop (3 * i)).take 3).length = 3 := by
  rw [List.length_take, List.length_drop]
  omega
theorem cut_mem {x : List Nat} {i c : Nat} (h : c ∈ (x.drop i).take 3) : c ∈ x := List.mem_of_mem_drop (List.mem_of_mem_take h)
theorem told_el {x : List Nat} {i : Nat} {a b d : Option PV} (hd : ∀ c ∈ x, 48 ≤ c ∧ c ≤ 57) (h : 3 * i + 3 ≤ x.length) (hz : szOk x.length = true) (st : Sto) : bo_cells_told_1 noTh [some (.str x), a, b, some (.int (3 * i : Nat)), d] st = .ok (.int (v3 ((x.drop (3 * i)).take 3))) st := by
  have e1 : fSl (.str x) (some ((3 * i : Nat) : Int)) (some ((3 * i : Nat) + 3)) st = .ok (.str ((x.drop (3 * i)).take 3)) st := by
    have e := e_cut (x := x) (i := 3 * i) (j := 3 * i + 3) (by omega) (by omega) hz st
    rw [show 3 * i + 3 - 3 * i = 3 by omega] at e
    exact e
  simp only [bo_cells_told_1, mkF, env0, dSeq, dSet, dIfS, dRet, dRetN, dExp, dBin, dUn, dVar, dC, dCons, dNil, dApp, dMet, dCall, dCallV, b_ok, b_bad, s_ok, f_rt, f_nx, dTB, dTst, dNotT, dOrT, dAndT, dAnd, dOr, dNot, dChain, dIf, dSkip, dNever, Tg.set, e_le, e_lt, e_ge, e_gt, e_add, e_sub, List.map_cons, List.map_nil, List.length_cons, List.length_nil, List.replicate, List.cons_append, List.nil_append, List.append_nil, List.getElem?_cons_zero, List.getElem?_cons_succ, List.set_cons_zero, List.set_cons_succ, Nat.sub_self, Nat.reduceSub, Nat.reduceAdd, wipeE, dSl, dPt, e1]
  exact int_three (cut_three h) (fun c hc => hd c (cut_mem hc)) st

theorem nums_len (x : List Nat) : ∀ n i, (nums x i n).length = n
  | 0, _ => rfl
  | n + 1, i => by rw [nums, List.length_cons, nums_len x n]
theorem rng_nums (x : List Nat) (h : PV → PV) (hh : ∀ i : Nat, h (.int (3 * i : Nat)) = .int (v3 ((x.drop (3 * i)).take 3))) : ∀ n (i : Nat), (rngV ((3 * i : Nat) : Int) 3 n).map h = (nums x i n).map PV.int
  | 0, _ => rfl
  | n + 1, i => by
    rw [rngV, List.map_cons, hh, nums, List.map_cons]
    have e : ((3 * i : Nat) : Int) + 3 = ((3 * (i + 1) : Nat) : Int) := by omega
    rw [e, rng_nums x h hh n (i + 1)]
theorem rng3_mem {n : Nat} {p : PV} (h : p ∈ rngV 0 3 n) : ∃ i : Nat, p = .int (3 * i : Nat) ∧ i < n := by
  obtain ⟨i, hi⟩ := List.getElem?_of_mem h
  obtain ⟨h1, h2⟩ := rngV_get 3 n 0 i p hi
  exact ⟨i, by rw [h2]; congr 1; omega, h1⟩
theorem size3 (n : Nat) : (Builtin.Range.rangeSize 0 ((3 * n : Nat) : Int) 3).toNat = n := by
  unfold Builtin.Range.rangeSize
  simp
  split <;> omega

theorem rng3_ok {n : Nat} (hn : n ≤ 20000) (st : Sto) : fRng3 [.int 0, .int (3 * n : Nat), .int 3] st = .ok (.vals (rngV 0 3 n)) st := by
  have e := size3 n
  have h : okC 0 ((3 * n : Nat) : Int) 3 (Builtin.Range.rangeSize 0 ((3 * n : Nat) : Int) 3).toNat = true := by
    have h0 : 0 ≤ Builtin.Range.rangeSize 0 ((3 * n : Nat) : Int) 3 := by
      unfold Builtin.Range.rangeSize
      simp
      split <;> omega
    unfold okC
    rw [Bool.and_eq_true, Bool.and_eq_true, Bool.and_eq_true]
    refine ⟨⟨⟨rfl, rfl⟩, ?_⟩, ?_⟩
    · have hs : Builtin.Range.rangeSize 0 ((3 * n : Nat) : Int) 3 = n := by omega
      unfold Builtin.Range.small
      rw [hs]
      simp [Builtin.Range.rangeFitsLong]
      omega
    · rw [beq_iff_eq]
      omega
  unfold fRng3
  dsimp only
  rw [if_pos h, e]
theorem it_gen (f : List PV → Sto → Res ItD) {x : List Nat} {env : Mi.Env} (hz : szOk x.length = true) (st : Sto) : dRng f (dCons (dC (.int 0)) (dCons (dApp fLen (dCons (dVar 0) (dNil))) (dCons (dC (.int 3)) (dNil)))) noTh (some (.str x) :: env) st = f [.int 0, .int x.length, .int 3] st := by
  simp only [dRng, mkF, env0, dSeq, dSet, dIfS, dRet, dRetN, dExp, dBin, dUn, dVar, dC, dCons, dNil, dApp, dMet, dCall, dCallV, b_ok, b_bad, s_ok, f_rt, f_nx, dTB, dTst, dNotT, dOrT, dAndT, dAnd, dOr, dNot, dChain, dIf, dSkip, dNever, Tg.set, e_le, e_lt, e_ge, e_gt, e_add, e_sub, List.map_cons, List.map_nil, List.length_cons, List.length_nil, List.replicate, List.cons_append, List.nil_append, List.append_nil, List.getElem?_cons_zero, List.getElem?_cons_succ, List.set_cons_zero, List.set_cons_succ, Nat.sub_self, Nat.reduceSub, Nat.reduceAdd, wipeE, e_len _ hz]
theorem it_nums {x : List Nat} {n : Nat} {env : Mi.Env} (hl : x.length = 3 * n) (hn : n ≤ 20000) (hz : szOk x.length = true) (st : Sto) : dRng fRng3 (dCons (dC (.int 0)) (dCons (dApp fLen (dCons (dVar 0) (dNil))) (dCons (dC (.int 3)) (dNil)))) noTh (some (.str x) :: env) st = .ok (.vals (rngV 0 3 n)) st := by
  rw [it_gen fRng3 hz st, hl]
  exact rng3_ok hn st

theorem lc_nums {x : List Nat} {n : Nat} {b d : Option PV} (hd : ∀ c ∈ x, 48 ≤ c ∧ c ≤ 57) (hl : x.length = 3 * n) (hn : n ≤ 20000) (st : Sto) : dLc (dRng fRng3 (dCons (dC (.int 0)) (dCons (dApp fLen (dCons (dVar 0) (dNil))) (dCons (dC (.int 3)) (dNil))))) (.nm 3) (dYes) (bo_cells_told_1) [3] noTh [some (.str x), none, b, none, d] st = .ok (.ref st.length) (st ++ [.lst ((nums x 0 n).map .int)]) := by
  have hz : szOk x.length = true := Nat.ble_eq_true_of_le (by omega)
  have hi := it_nums (env := [none, b, none, d]) hl hn hz st
  have hle := dLc_vals (i := 3) (ts := dYes) (el := bo_cells_told_1) (p := fun _ => true) (h := fun q => match q with | .int j => .int (v3 ((x.drop j.toNat).take 3)) | _ => .non) (own := [3]) hi (by rw [rngV_len]; omega) (fun _ _ _ => rfl) (fun q hq _ acc => by
    obtain ⟨i, rfl, hi⟩ := rng3_mem hq
    exact told_el hd (by omega) hz _)
  have r := rng_nums x (fun q => match q with | .int j => .int (v3 ((x.drop j.toNat).take 3)) | _ => .non) (fun i => rfl) n 0
  rw [show ((3 * 0 : Nat) : Int) = 0 from rfl] at r
  rw [all_true, r] at hle
  exact hle

theorem memD : ∀ c : Nat, decide (c ∈ [48, 49, 50, 51, 52, 53, 54, 55, 56, 57]) = digB c := by
  intro c
  unfold digB
  by_cases h : 48 ≤ c ∧ c ≤ 57
  · rw [decide_eq_true h.1, decide_eq_true h.2]
    refine decide_eq_true ?_
    simp only [List.mem_cons, List.not_mem_nil, or_false]
    omega
  · rw [← Bool.decide_and, decide_eq_false h]
    refine decide_eq_false ?_
    simp only [List.mem_cons, List.not_mem_nil, or_false]
    omega
theorem e_inD (c : Nat) (st : Sto) : pInK (.str [c]) (.str [48, 49, 50, 51, 52, 53, 54, 55, 56, 57]) st = .ok (.bl (digB c)) st := by
  rw [← memD]
  rfl
theorem e_ninD (c : Nat) (st : Sto) : pNotIn (.str [c]) (.str [48, 49, 50, 51, 52, 53, 54, 55, 56, 57]) st = .ok (.bl (!digB c)) st := by
  rw [← memD]
  rfl
theorem lc_dig {x : List Nat} {a b c d : Option PV} (hl : x.length ≤ 60000) (st : Sto) : dLc (dIt (dVar 0)) (.nm 2) (dYes) (bo_cells_told_2) [2] noTh [some (.str x), a, b, c, d] st = .ok (.ref st.length) (st ++ [.lst (x.map fun c => .bl (digB c))]) := by
  have hle := dLc_vals (it := dIt (dVar 0)) (i := 2) (ts := dYes) (el := bo_cells_told_2) (p := fun _ => true) (h := fun q => .bl (match q with | .str [c] => digB c | _ => false)) (own := [2]) (th := noTh) (env := [some (.str x), a, b, c, d]) (st := st) (s := st) (xs := x.map fun c => .str [c]) rfl (by rw [List.length_map]; omega) (fun _ _ _ => rfl) (fun q hq _ acc => by
    obtain ⟨c, _, rfl⟩ := List.mem_map.mp hq
    simp only [bo_cells_told_2, mkF, env0, dSeq, dSet, dIfS, dRet, dRetN, dExp, dBin, dUn, dVar, dC, dCons, dNil, dApp, dMet, dCall, dCallV, b_ok, b_bad, s_ok, f_rt, f_nx, dTB, dTst, dNotT, dOrT, dAndT, dAnd, dOr, dNot, dChain, dIf, dSkip, dNever, Tg.set, e_le, e_lt, e_ge, e_gt, e_add, e_sub, List.map_cons, List.map_nil, List.length_cons, List.length_nil, List.replicate, List.cons_append, List.nil_append, List.append_nil, List.getElem?_cons_zero, List.getElem?_cons_succ, List.set_cons_zero, List.set_cons_succ, Nat.sub_self, Nat.reduceSub, Nat.reduceAdd, wipeE, e_inD])
  rw [all_true, List.map_map] at hle
  exact hle
theorem lc_small {xs : List Int} {a b c d : Option PV} (hl : xs.length ≤ 60000) (st : Sto) : dLc (dIt (dVar 1)) (.nm 4) (dYes) (bo_cells_told_0) [4] noTh [a, some (.tup (xs.map .int)), b, c, d] st = .ok (.ref st.length) (st ++ [.lst (xs.map fun v => .bl (decide (v < 997)))]) := by
  have hle := dLc_vals (it := dIt (dVar 1)) (i := 4) (ts := dYes) (el := bo_cells_told_0) (p := fun _ => true) (h := fun q => .bl (match q with | .int v => decide (v < 997) | _ => false)) (own := [4]) (th := noTh) (env := [a, some (.tup (xs.map .int)), b, c, d]) (st := st) (s := st) (xs := xs.map PV.int) rfl (by rw [List.length_map]; omega) (fun _ _ _ => rfl) (fun q hq _ acc => by
    obtain ⟨v, _, rfl⟩ := List.mem_map.mp hq
    simp only [bo_cells_told_0, mkF, env0, dSeq, dSet, dIfS, dRet, dRetN, dExp, dBin, dUn, dVar, dC, dCons, dNil, dApp, dMet, dCall, dCallV, b_ok, b_bad, s_ok, f_rt, f_nx, dTB, dTst, dNotT, dOrT, dAndT, dAnd, dOr, dNot, dChain, dIf, dSkip, dNever, Tg.set, e_le, e_lt, e_ge, e_gt, e_add, e_sub, List.map_cons, List.map_nil, List.length_cons, List.length_nil, List.replicate, List.cons_append, List.nil_append, List.append_nil, List.getElem?_cons_zero, List.getElem?_cons_succ, List.set_cons_zero, List.set_cons_succ, Nat.sub_self, Nat.reduceSub, Nat.reduceAdd, wipeE])
  rw [all_true, List.map_map] at hle
  exact hle
theorem e_tuple {s : Sto} {k : Nat} {xs : List PV} (h : lstAt s k = some xs) : fTuple [.ref k] s = .ok (.tup xs) s := by
  unfold fTuple seqOf
  dsimp only
  rw [h]
theorem e_ne0 (i : Int) (st : Sto) : pNe (.int i) (.int 0) st = .ok (.bl (!decide (i = 0))) st := rfl
theorem told_none1 {x : List Nat} (h : ¬ (x.length % 3 = 0)) : told x = none := by
  unfold told
  rw [if_neg]
  intro z
  rw [Bool.and_eq_true, Bool.and_eq_true, beq_iff_eq] at z
  exact h z.1.1
theorem told_none2 {x : List Nat} (h : ¬ (x.all digB = true)) : told x = none := by
  unfold told
  rw [if_neg]
  intro z
  rw [Bool.and_eq_true, Bool.and_eq_true, beq_iff_eq] at z
  exact h z.1.2
theorem dig_all {x : List Nat} (h : x.all digB = true) : ∀ c ∈ x, 48 ≤ c ∧ c ≤ 57 := fun c hc => by
  have := List.all_eq_true.mp h c hc
  unfold digB at this
  rw [Bool.and_eq_true] at this
  exact ⟨of_decide_eq_true this.1, of_decide_eq_true this.2⟩
theorem cells_told_ok {x : List Nat} (hl : x.length ≤ 60000) (st : Sto) : ∃ g, m_cells_told [.str x] st = .ok (optT (told x)) (st ++ g) := by
  have hz : szOk x.length = true := Nat.ble_eq_true_of_le (by omega)
  have h3 : ∀ s, pMod (.int (x.length : Int)) (.int 3) s = .ok (.int ((x.length : Int) % 3)) s := fun s => e_mod s (by decide)
  by_cases h : x.length % 3 = 0
  · have h4 : (x.length : Int) % 3 = 0 := by omega
    have hd := lc_dig (a := none) (b := none) (c := none) (d := none) hl st
    by_cases hx : x.all digB = true
    · have hn := lc_nums (x := x) (n := x.length / 3) (b := none) (d := none) (dig_all hx) (by omega) (by omega) (st ++ [.lst (x.map fun c => .bl (digB c))])
      have hs := lc_small (xs := nums x 0 (x.length / 3)) (a := some (.str x)) (b := none) (c := none) (d := none) (by rw [nums_len]; omega) ((st ++ [.lst (x.map fun c => .bl (digB c))]) ++ [.lst ((nums x 0 (x.length / 3)).map .int)])
      have ha := e_all (lst_end st (x.map fun c => PV.bl (digB c)) []) (bls_map digB x)
      have ht := e_tuple (lst_end (st ++ [.lst (x.map fun c => .bl (digB c))]) ((nums x 0 (x.length / 3)).map PV.int) [])
      have hb := e_all (lst_end ((st ++ [.lst (x.map fun c => .bl (digB c))]) ++ [.lst ((nums x 0 (x.length / 3)).map .int)]) ((nums x 0 (x.length / 3)).map fun v => PV.bl (decide (v < 997))) []) (bls_map (fun v : Int => decide (v < 997)) (nums x 0 (x.length / 3)))
      have ea : (x.map digB).all id = true := by
        rw [List.all_map]
        exact hx
      rw [ea] at ha
      have eb : ((nums x 0 (x.length / 3)).map fun v : Int => decide (v < 997)).all id = (nums x 0 (x.length / 3)).all fun v => decide (v < 997) := by
        rw [List.all_map]
        rfl
      rw [eb] at hb
      refine ⟨[.lst (x.map fun c => .bl (digB c)), .lst ((nums x 0 (x.length / 3)).map .int), .lst ((nums x 0 (x.length / 3)).map fun v => .bl (decide (v < 997)))], ?_⟩
      have et : told x = if ((nums x 0 (x.length / 3)).all fun v => decide (v < 997)) = true then some (nums x 0 (x.length / 3)) else none := by
        unfold told
        rw [hx, show (x.length % 3 == 0) = true from beq_iff_eq.mpr h, Bool.true_and, Bool.true_and]
      rw [et]
      simp only [m_cells_told, d_cells_told, mkF, env0, dSeq, dSet, dIfS, dRet, dRetN, dExp, dBin, dUn, dVar, dC, dCons, dNil, dApp, dMet, dCall, dCallV, b_ok, b_bad, s_ok, f_rt, f_nx, dTB, dTst, dNotT, dOrT, dAndT, dAnd, dOr, dNot, dChain, dIf, dSkip, dNever, Tg.set, e_le, e_lt, e_ge, e_gt, e_add, e_sub, List.map_cons, List.map_nil, List.length_cons, List.length_nil, List.replicate, List.cons_append, List.nil_append, List.append_nil, List.getElem?_cons_zero, List.getElem?_cons_succ, List.set_cons_zero, List.set_cons_succ, Nat.sub_self, Nat.reduceSub, Nat.reduceAdd, wipeE, e_len _ hz, h3, h4, e_ne0, decide_true, Bool.not_true, hd, ha, pTru, hn, ht, hs, hb]
      cases ((nums x 0 (x.length / 3)).all fun v => decide (v < 997)) <;> simp [optT, mkF, env0, dSeq, dSet, dIfS, dRet, dRetN, dExp, dBin, dUn, dVar, dC, dCons, dNil, dApp, dMet, dCall, dCallV, b_ok, b_bad, s_ok, f_rt, f_nx, dTB, dTst, dNotT, dOrT, dAndT, dAnd, dOr, dNot, dChain, dIf, dSkip, dNever, Tg.set, e_le, e_lt, e_ge, e_gt, e_add, e_sub, List.map_cons, List.map_nil, List.length_cons, List.length_nil, List.replicate, List.cons_append, List.nil_append, List.append_nil, List.getElem?_cons_zero, List.getElem?_cons_succ, List.set_cons_zero, List.set_cons_succ, Nat.sub_self, Nat.reduceSub, Nat.reduceAdd, wipeE]
    · have ha := e_all (lst_end st (x.map fun c => PV.bl (digB c)) []) (bls_map digB x)
      have ea : (x.map digB).all id = false := by
        rw [List.all_map]
        exact Bool.eq_false_iff.mpr hx
      rw [ea] at ha
      refine ⟨[.lst (x.map fun c => .bl (digB c))], ?_⟩
      rw [told_none2 hx]
      simp only [m_cells_told, d_cells_told, mkF, env0, dSeq, dSet, dIfS, dRet, dRetN, dExp, dBin, dUn, dVar, dC, dCons, dNil, dApp, dMet, dCall, dCallV, b_ok, b_bad, s_ok, f_rt, f_nx, dTB, dTst, dNotT, dOrT, dAndT, dAnd, dOr, dNot, dChain, dIf, dSkip, dNever, Tg.set, e_le, e_lt, e_ge, e_gt, e_add, e_sub, List.map_cons, List.map_nil, List.length_cons, List.length_nil, List.replicate, List.cons_append, List.nil_append, List.append_nil, List.getElem?_cons_zero, List.getElem?_cons_succ, List.set_cons_zero, List.set_cons_succ, Nat.sub_self, Nat.reduceSub, Nat.reduceAdd, wipeE, e_len _ hz, h3, h4, e_ne0, decide_true, Bool.not_true, hd, ha, pTru, Bool.not_false, optT]
  · have h4 : ¬ ((x.length : Int) % 3 = 0) := by omega
    refine ⟨[], ?_⟩
    rw [told_none1 h]
    simp only [m_cells_told, d_cells_told, mkF, env0, dSeq, dSet, dIfS, dRet, dRetN, dExp, dBin, dUn, dVar, dC, dCons, dNil, dApp, dMet, dCall, dCallV, b_ok, b_bad, s_ok, f_rt, f_nx, dTB, dTst, dNotT, dOrT, dAndT, dAnd, dOr, dNot, dChain, dIf, dSkip, dNever, Tg.set, e_le, e_lt, e_ge, e_gt, e_add, e_sub, List.map_cons, List.map_nil, List.length_cons, List.length_nil, List.replicate, List.cons_append, List.nil_append, List.append_nil, List.getElem?_cons_zero, List.getElem?_cons_succ, List.set_cons_zero, List.set_cons_succ, Nat.sub_self, Nat.reduceSub, Nat.reduceAdd, wipeE, e_len _ hz, h3, h4, e_ne0, decide_false, Bool.not_false, optT]
theorem optT_cl (n : Nat) (o : Option (List Int)) : clV n (optT o) = true := by
  cases o with
  | none => rfl
  | some vs => exact clVs_ints n vs
theorem r_cells_told : Ref s_cells_told m_cells_told := Ref.of fun ps st hp hs => by
  unfold s_cells_told
  split
  · rename_i x
    split
    · rename_i h
      obtain ⟨g, e⟩ := cells_told_ok (okT_of h).1 st
      exact LeR.plain e (optT_cl _ _) hs
    · exact trivial
  · exact trivial

theorem all_cut {x : List Nat} {p : Nat → Bool} (h : x.all p = true) (i n : Nat) : ((x.drop i).take n).all p = true :=
  List.all_eq_true.mpr fun c hc => List.all_eq_true.mp h c (List.mem_of_mem_drop (List.mem_of_mem_take hc))
theorem okT_cut {x : List Nat} (h : okT x = true) (i n : Nat) : okT ((x.drop i).take n) = true := by
  obtain ⟨h1, h2, _⟩ := okT_of h
  unfold okT
  rw [all_cut h2, Bool.and_true]
  refine Nat.ble_eq_true_of_le ?_
  rw [List.length_take, List.length_drop]
  omega
theorem cells_told_f {x : List Nat} (h : okT x = true) (st : Sto) : f_cells_told [.str x] st = .ok (optT (told x)) st := by
  show s_cells_told _ st = _
  unfold s_cells_told
  dsimp only
  rw [if_pos h]
theorem cut_get (x : List Nat) {i n k : Nat} (h : k < n) : ((x.drop i).take n)[k]? = x[i + k]? := by
  rw [List.getElem?_take_of_lt h, List.getElem?_drop]
theorem ne_str1 (a b : Nat) (st : Sto) : pNe (.str [a]) (.str [b]) st = .ok (.bl (!decide (a = b))) st := by
  show Res.ok (PV.bl (!decide (([a] : List Nat) = [b]))) st = _
  congr 3
  simp
theorem window_at_ok {x : List Nat} {p : Nat} (h : okT x = true) (hp : p < x.length) (st : Sto) : m_window_at [.str x, .int (p : Int)] st = .ok (optT (winV x p)) st := by
  obtain ⟨h1, h2, hz⟩ := okT_of h
  have e1 : fSl (.str x) (some (p : Int)) (some ((p : Int) + 122)) st = .ok (.str ((x.drop p).take 122)) st := by
    have e := e_cut (x := x) (i := p) (j := p + 122) (by omega) (by omega) hz st
    rw [show p + 122 - p = 122 by omega] at e
    exact e
  have hw := okT_cut h p 122
  obtain ⟨w1, w2, wz⟩ := okT_of hw
  have lw : ((x.drop p).take 122).length = min 122 (x.length - p) := by
    rw [List.length_take, List.length_drop]
  have g0 : ((x.drop p).take 122)[0]? = x[p]? := cut_get x (by decide)
  have g1 : ((x.drop p).take 122)[121]? = x[p + 121]? := cut_get x (by decide)
  by_cases hl : p + 122 ≤ x.length
  · have hlw : ((x.drop p).take 122).length = 122 := by omega
    have ha : x[p]? = some x[p] := List.getElem?_eq_getElem hp
    have hb : x[p + 121]? = some x[p + 121] := List.getElem?_eq_getElem (by omega)
    generalize x[p] = a at ha
    generalize x[p + 121] = b at hb
    have ew : (((x.drop p).take 122).drop 1).take (((x.drop p).take 122).length - 2) = (x.drop (p + 1)).take 120 := by
      rw [hlw, List.drop_take, List.drop_drop, List.take_take, show min (122 - 2) (122 - 1) = 120 from rfl]
    have hc := cells_told_f (okT_cut h (p + 1) 120)
    rw [ha] at g0
    rw [hb] at g1
    have ei := e_inner (by omega) wz
    have ev : winV x p = if (a == 35 && b == 59) = true then told ((x.drop (p + 1)).take 120) else none := by
      unfold winV
      rw [ha, hb]
      rfl
    rw [ev]
    rw [ew] at ei
    clear ew
    generalize hW : (x.drop p).take 122 = w at *
    have i0 : ∀ s, pIx (.str w) (.int 0) s = .ok (.str [a]) s := fun s => e_ixS wz (by
      unfold atI ixN
      rw [if_pos (by decide), if_pos (by omega)]
      exact g0)
    have i1 : ∀ s, pIx (.str w) (.int (-1)) s = .ok (.str [b]) s := fun s => e_ixS wz (by
      unfold atI ixN
      rw [if_neg (by decide), if_pos (by omega)]
      rw [show ((-1 : Int) + (w.length : Int)).toNat = 121 by omega]
      exact g1)
    have n1 : ∀ s, pNeg (.int 1) s = .ok (.int (-1)) s := fun s => rfl
    have c122 : ¬ ((w.length : Int) < 122) := by omega
    simp only [m_window_at, d_window_at, mkF, env0, dSeq, dSet, dIfS, dRet, dRetN, dExp, dBin, dUn, dVar, dC, dCons, dNil, dApp, dMet, dCall, dCallV, b_ok, b_bad, s_ok, f_rt, f_nx, dTB, dTst, dNotT, dOrT, dAndT, dAnd, dOr, dNot, dChain, dIf, dSkip, dNever, Tg.set, e_le, e_lt, e_ge, e_gt, e_add, e_sub, List.map_cons, List.map_nil, List.length_cons, List.length_nil, List.replicate, List.cons_append, List.nil_append, List.append_nil, List.getElem?_cons_zero, List.getElem?_cons_succ, List.set_cons_zero, List.set_cons_succ, Nat.sub_self, Nat.reduceSub, Nat.reduceAdd, wipeE, dSl, dPt, e1, e_len _ wz, c122, decide_false, i0, i1, n1, ne_str1]
    by_cases ka : a = 35
    · by_cases kb : b = 59
      · subst ka kb
        simp only [decide_true, Bool.not_true, beq_self_eq_true, Bool.and_self, if_true, mkF, env0, dSeq, dSet, dIfS, dRet, dRetN, dExp, dBin, dUn, dVar, dC, dCons, dNil, dApp, dMet, dCall, dCallV, b_ok, b_bad, s_ok, f_rt, f_nx, dTB, dTst, dNotT, dOrT, dAndT, dAnd, dOr, dNot, dChain, dIf, dSkip, dNever, Tg.set, e_le, e_lt, e_ge, e_gt, e_add, e_sub, List.map_cons, List.map_nil, List.length_cons, List.length_nil, List.replicate, List.cons_append, List.nil_append, List.append_nil, List.getElem?_cons_zero, List.getElem?_cons_succ, List.set_cons_zero, List.set_cons_succ, Nat.sub_self, Nat.reduceSub, Nat.reduceAdd, wipeE, n1, dPt, dSl, ei, hc, Nat.beq]
      · have kb2 : (b == 59) = false := beq_eq_false_iff_ne.mpr kb
        simp only [ka, kb, kb2, decide_true, decide_false, Bool.not_true, Bool.not_false, Bool.and_false, Bool.false_eq_true, if_false, mkF, env0, dSeq, dSet, dIfS, dRet, dRetN, dExp, dBin, dUn, dVar, dC, dCons, dNil, dApp, dMet, dCall, dCallV, b_ok, b_bad, s_ok, f_rt, f_nx, dTB, dTst, dNotT, dOrT, dAndT, dAnd, dOr, dNot, dChain, dIf, dSkip, dNever, Tg.set, e_le, e_lt, e_ge, e_gt, e_add, e_sub, List.map_cons, List.map_nil, List.length_cons, List.length_nil, List.replicate, List.cons_append, List.nil_append, List.append_nil, List.getElem?_cons_zero, List.getElem?_cons_succ, List.set_cons_zero, List.set_cons_succ, Nat.sub_self, Nat.reduceSub, Nat.reduceAdd, wipeE, optT, n1, i1, ne_str1]
    · have ka2 : (a == 35) = false := beq_eq_false_iff_ne.mpr ka
      simp only [ka, ka2, decide_false, Bool.not_false, Bool.false_and, Bool.false_eq_true, if_false, mkF, env0, dSeq, dSet, dIfS, dRet, dRetN, dExp, dBin, dUn, dVar, dC, dCons, dNil, dApp, dMet, dCall, dCallV, b_ok, b_bad, s_ok, f_rt, f_nx, dTB, dTst, dNotT, dOrT, dAndT, dAnd, dOr, dNot, dChain, dIf, dSkip, dNever, Tg.set, e_le, e_lt, e_ge, e_gt, e_add, e_sub, List.map_cons, List.map_nil, List.length_cons, List.length_nil, List.replicate, List.cons_append, List.nil_append, List.append_nil, List.getElem?_cons_zero, List.getElem?_cons_succ, List.set_cons_zero, List.set_cons_succ, Nat.sub_self, Nat.reduceSub, Nat.reduceAdd, wipeE, optT]
  · have ev : winV x p = none := by
      unfold winV
      rw [if_neg]
      intro z
      rw [Bool.and_eq_true, beq_iff_eq, beq_iff_eq] at z
      have := (List.getElem?_eq_some_iff.mp z.2).1
      omega
    rw [ev]
    generalize (x.drop p).take 122 = w at *
    have c122 : (w.length : Int) < 122 := by omega
    simp only [m_window_at, d_window_at, mkF, env0, dSeq, dSet, dIfS, dRet, dRetN, dExp, dBin, dUn, dVar, dC, dCons, dNil, dApp, dMet, dCall, dCallV, b_ok, b_bad, s_ok, f_rt, f_nx, dTB, dTst, dNotT, dOrT, dAndT, dAnd, dOr, dNot, dChain, dIf, dSkip, dNever, Tg.set, e_le, e_lt, e_ge, e_gt, e_add, e_sub, List.map_cons, List.map_nil, List.length_cons, List.length_nil, List.replicate, List.cons_append, List.nil_append, List.append_nil, List.getElem?_cons_zero, List.getElem?_cons_succ, List.set_cons_zero, List.set_cons_succ, Nat.sub_self, Nat.reduceSub, Nat.reduceAdd, wipeE, dSl, dPt, e1, e_len _ wz, c122, decide_true, optT]
theorem r_window_at : Ref s_window_at m_window_at := Ref.of fun ps st hp hs => by
  unfold s_window_at
  split
  · rename_i x i
    split
    · rename_i h
      rw [Bool.and_eq_true, Bool.and_eq_true] at h
      have h1 := of_decide_eq_true h.1.2
      have h2 := of_decide_eq_true h.2
      have e := window_at_ok (p := i.toNat) h.1.1 (by omega) st
      rw [show ((i.toNat : Nat) : Int) = i by omega] at e
      exact LeR.plain (g := []) (by rw [e, List.append_nil]) (optT_cl _ _) hs
    · exact trivial
  · exact trivial

end K09
end
section
set_option maxRecDepth 100000
set_option maxHeartbeats 4000000
namespace K09
open PySem PySem.Spec PyProof.Rows L2 Mi
theorem e_notN0 (st : Sto) : pNotN .non .non st = .ok (.bl false) st := rfl
theorem e_notN1 (xs : List PV) (st : Sto) : pNotN (.tup xs) .non st = .ok (.bl true) st := rfl
theorem e_tup2 (a b : PV) (st : Sto) : fTup [a, b] st = .ok (.tup [a, b]) st := rfl
theorem e_tup3 (a b c : PV) (st : Sto) : fTup [a, b, c] st = .ok (.tup [a, b, c]) st := rfl
theorem e_lst0 (st : Sto) : fLst [] st = .ok (.ref st.length) (st ++ [.lst []]) := rfl
theorem window_at_f {x : List Nat} {p : Nat} (h : okT x = true) (hp : p < x.length) (st : Sto) : f_window_at [.str x, .int (p : Int)] st = .ok (optT (winV x p)) st := by
  show s_window_at _ st = _
  unfold s_window_at
  dsimp only
  rw [h, decide_eq_true (show (0 : Int) ≤ (p : Int) by omega), decide_eq_true (show (p : Int) < (x.length : Int) by omega)]
  rfl
theorem req_f {x : List Nat} (h : okT x = true) (st : Sto) : f_require_text [.str x] st = .ok .non st := by
  show s_require_text _ st = _
  unfold s_require_text
  dsimp only
  rw [if_pos h]
/-- the law's own reading, three signs by three -/
def toldFrom (x : List Nat) : Nat → Nat → Option (List Int)
  | _, 0 => some []
  | i, n + 1 => if (((x.drop (3 * i)).take 3).all digB && decide (v3 ((x.drop (3 * i)).take 3) < 997)) = true then (toldFrom x (i + 1) n).map (v3 ((x.drop (3 * i)).take 3) :: ·) else none
theorem toldFrom_eq {x : List Nat} : ∀ (n i : Nat), x.length = 3 * (i + n) → toldFrom x i n = if ((x.drop (3 * i)).all digB && (nums x i n).all fun v => decide (v < 997)) = true then some (nums x i n) else none
  | 0, i, h => by
    rw [List.drop_of_length_le (by omega)]
    rfl
  | n + 1, i, h => by
    have e : x.drop (3 * i) = (x.drop (3 * i)).take 3 ++ x.drop (3 * (i + 1)) := by
      rw [show 3 * (i + 1) = 3 * i + 3 by omega, ← List.drop_drop, List.take_append_drop]
    have ea : (x.drop (3 * i)).all digB = (((x.drop (3 * i)).take 3).all digB && (x.drop (3 * (i + 1))).all digB) := by
      rw [← List.all_append, ← e]
    rw [toldFrom, toldFrom_eq n (i + 1) (by omega), ea, nums, List.all_cons]
    cases ((x.drop (3 * i)).take 3).all digB <;> cases (x.drop (3 * (i + 1))).all digB <;> cases decide (v3 ((x.drop (3 * i)).take 3) < 997) <;> cases (nums x (i + 1) n).all (fun v => decide (v < 997)) <;> rfl
theorem told_from {x : List Nat} {n : Nat} (h : x.length = 3 * n) : told x = toldFrom x 0 n := by
  rw [toldFrom_eq n 0 (by omega)]
  unfold told
  rw [show x.length / 3 = n by omega, show (x.length % 3 == 0) = true from beq_iff_eq.mpr (by omega), Bool.true_and]
  rfl
theorem mapO_strs (n : Nat) (st : Sto) : ∀ cs : List Nat, (∀ c ∈ cs, c < 1114112) → mapO (dat n st) (cs.map fun c => PV.str [c]) = some (cs.map fun c => .str ⟨#[c]⟩)
  | [], _ => by rfl
  | c :: r, h => by
    have hc : okCh [c] = true := by
      unfold okCh
      rw [List.all_cons, List.all_nil, Bool.and_true]
      exact Nat.ble_eq_true_of_le (h c List.mem_cons_self)
    have e : dat n st (.str [c]) = some (.str ⟨#[c]⟩) := by
      cases n <;> (unfold dat; rw [if_pos hc])
    rw [List.map_cons]
    unfold mapO
    rw [e]
    dsimp only
    rw [mapO_strs n st r (fun d hd => h d (List.mem_cons_of_mem _ hd))]
    rfl
theorem ne_nil {s g : Sto} {cs : List Nat} (h : ∀ c ∈ cs, c < 1114112) : pNe (.ref s.length) (.ref (s.length + 1)) (s ++ .lst (cs.map fun c => .str [c]) :: .lst [] :: g) = .ok (.bl (!cs.isEmpty)) (s ++ .lst (cs.map fun c => .str [c]) :: .lst [] :: g) := by
  have l0 : lstAt (s ++ .lst (cs.map fun c => .str [c]) :: .lst [] :: g) s.length = some (cs.map fun c => .str [c]) := lst_end s _ _
  have l1 : lstAt (s ++ .lst (cs.map fun c => .str [c]) :: .lst [] :: g) (s.length + 1) = some [] := lst_of (get_add s _ 1)
  have e : pEqB (.ref s.length) (.ref (s.length + 1)) (s ++ .lst (cs.map fun c => .str [c]) :: .lst [] :: g) = some cs.isEmpty := by
    show (match dat 60 _ (.ref s.length) with
      | some d => match dat 60 _ (.ref (s.length + 1)) with
        | some e => some (PyData.eqv d e)
        | none => none
      | none => none) = _
    have d0 : dat 60 (s ++ .lst (cs.map fun c => .str [c]) :: .lst [] :: g) (.ref s.length) = some (.list (cs.map fun c => .str ⟨#[c]⟩)) := by
      show (match lstAt _ s.length with
        | some xs => match mapO (dat 59 _) xs with
          | some ds => some (PyData.list ds)
          | none => none
        | none => none) = _
      rw [l0]
      dsimp only
      rw [mapO_strs _ _ _ h]
    have d1 : dat 60 (s ++ .lst (cs.map fun c => .str [c]) :: .lst [] :: g) (.ref (s.length + 1)) = some (.list []) := by
      show (match lstAt _ (s.length + 1) with
        | some xs => match mapO (dat 59 _) xs with
          | some ds => some (PyData.list ds)
          | none => none
        | none => none) = _
      rw [l1]
      rfl
    rw [d0, d1]
    cases cs with
    | nil => rfl
    | cons c r => rfl
  unfold pNe
  rw [e]
theorem lc_bad {y : List Nat} {a b c d : Option PV} (hl : y.length ≤ 60000) (st : Sto) : dLc (dIt (dVar 3)) (.nm 4) (dTB (dBin pNotIn (dVar 4) (dC (.str [48, 49, 50, 51, 52, 53, 54, 55, 56, 57])))) (bo__law_told_0) [4] noTh [a, b, c, some (.str y), d] st = .ok (.ref st.length) (st ++ [.lst ((y.filter fun c => !digB c).map fun c => .str [c])]) := by
  have hle := dLc_vals (it := dIt (dVar 3)) (i := 4) (ts := dTB (dBin pNotIn (dVar 4) (dC (.str [48, 49, 50, 51, 52, 53, 54, 55, 56, 57])))) (el := bo__law_told_0) (p := fun q => match q with | .str [c] => !digB c | _ => false) (h := fun q => q) (own := [4]) (th := noTh) (env := [a, b, c, some (.str y), d]) (st := st) (s := st) (xs := y.map fun c => .str [c]) rfl (by rw [List.length_map]; omega) (fun q hq acc => by
    obtain ⟨c, _, rfl⟩ := List.mem_map.mp hq
    simp only [mkF, env0, dSeq, dSet, dIfS, dRet, dRetN, dExp, dBin, dUn, dVar, dC, dCons, dNil, dApp, dMet, dCall, dCallV, b_ok, b_bad, s_ok, f_rt, f_nx, dTB, dTst, dNotT, dOrT, dAndT, dAnd, dOr, dNot, dChain, dIf, dSkip, dNever, Tg.set, e_le, e_lt, e_ge, e_gt, e_add, e_sub, List.map_cons, List.map_nil, List.length_cons, List.length_nil, List.replicate, List.cons_append, List.nil_append, List.append_nil, List.getElem?_cons_zero, List.getElem?_cons_succ, List.set_cons_zero, List.set_cons_succ, Nat.sub_self, Nat.reduceSub, Nat.reduceAdd, wipeE, e_ninD]) (fun q hq _ acc => by
    obtain ⟨c, _, rfl⟩ := List.mem_map.mp hq
    simp only [bo__law_told_0, mkF, env0, dSeq, dSet, dIfS, dRet, dRetN, dExp, dBin, dUn, dVar, dC, dCons, dNil, dApp, dMet, dCall, dCallV, b_ok, b_bad, s_ok, f_rt, f_nx, dTB, dTst, dNotT, dOrT, dAndT, dAnd, dOr, dNot, dChain, dIf, dSkip, dNever, Tg.set, e_le, e_lt, e_ge, e_gt, e_add, e_sub, List.map_cons, List.map_nil, List.length_cons, List.length_nil, List.replicate, List.cons_append, List.nil_append, List.append_nil, List.getElem?_cons_zero, List.getElem?_cons_succ, List.set_cons_zero, List.set_cons_succ, Nat.sub_self, Nat.reduceSub, Nat.reduceAdd, wipeE])
  rw [List.map_id', List.filter_map] at hle
  exact hle
theorem filt_emp {p : Nat → Bool} : ∀ y : List Nat, (y.filter fun c => !p c).isEmpty = y.all p
  | [] => rfl
  | c :: r => by
    rw [List.all_cons]
    cases h : p c with
    | true => rw [List.filter_cons_of_neg (by rw [h]; decide), filt_emp r]; rfl
    | false => rw [List.filter_cons_of_pos (by rw [h]; rfl)]; rfl
theorem chunk_ok {x : List Nat} {i : Nat} {s g : Sto} {acc : List Int} {b d : Option PV} (h : okT x = true) (hi : 3 * i + 3 ≤ x.length) (ha : acc.length ≤ 60000) :
    ∃ g', bo__law_told_1 noTh [some (.str x), some (.ref s.length), some (.int ((3 * i : Nat) : Int)), b, d] (s ++ .lst (acc.map .int) :: g) = if (((x.drop (3 * i)).take 3).all digB && decide (v3 ((x.drop (3 * i)).take 3) < 997)) = true then .nx [some (.str x), some (.ref s.length), some (.int ((3 * i : Nat) : Int)), some (.str ((x.drop (3 * i)).take 3)), d] (s ++ .lst ((acc ++ [v3 ((x.drop (3 * i)).take 3)]).map .int) :: g') else .rt .non (s ++ .lst (acc.map .int) :: g') := by
  obtain ⟨h1, h2, hz⟩ := okT_of h
  have e1 : ∀ st, fSl (.str x) (some ((3 * i : Nat) : Int)) (some (((3 * i : Nat) : Int) + 3)) st = .ok (.str ((x.drop (3 * i)).take 3)) st := fun st => by
    have e := e_cut (x := x) (i := 3 * i) (j := 3 * i + 3) (by omega) (by omega) hz st
    rw [show 3 * i + 3 - 3 * i = 3 by omega] at e
    exact e
  have l3 := cut_three hi
  have s3 := all_cut h2 (3 * i) 3
  generalize (x.drop (3 * i)).take 3 = y at *
  have lz : szOk y.length = true := by rw [l3]; rfl
  have n3 : ¬ ((y.length : Int) < 3) := by omega
  have hlc := lc_bad (y := y) (a := some (.str x)) (b := some (.ref s.length)) (c := some (.int ((3 * i : Nat) : Int))) (d := d) (by omega) (s ++ .lst (acc.map .int) :: g)
  have hb : ∀ c ∈ y.filter (fun c => !digB c), c < 1114112 := fun c hc => by
    have hm := List.all_eq_true.mp s3 c (List.mem_filter.mp hc).1
    unfold sgB at hm
    rw [Bool.and_eq_true] at hm
    have := of_decide_eq_true hm.2
    omega
  have hne := ne_nil (s := s ++ .lst (acc.map .int) :: g) (g := []) hb
  rw [filt_emp] at hne
  have l0 : ∀ st : Sto, fLst [] (st ++ [SO.lst ((y.filter fun c => !digB c).map fun c => .str [c])]) = .ok (.ref (st.length + 1)) (st ++ .lst ((y.filter fun c => !digB c).map fun c => .str [c]) :: .lst [] :: []) := fun st => by
    show Res.ok (PV.ref (st ++ [SO.lst _]).length) ((st ++ [SO.lst _]) ++ [.lst []]) = _
    simp
  refine ⟨g ++ .lst ((y.filter fun c => !digB c).map fun c => .str [c]) :: .lst [] :: [], ?_⟩
  have eg : ∀ q : List PV, s ++ .lst q :: (g ++ .lst ((y.filter fun c => !digB c).map fun c => .str [c]) :: .lst [] :: []) = (s ++ .lst q :: g) ++ .lst ((y.filter fun c => !digB c).map fun c => .str [c]) :: .lst [] :: [] := fun q => by simp
  simp only [bo__law_told_1, dSl, dPt, mkF, env0, dSeq, dSet, dIfS, dRet, dRetN, dExp, dBin, dUn, dVar, dC, dCons, dNil, dApp, dMet, dCall, dCallV, b_ok, b_bad, s_ok, f_rt, f_nx, dTB, dTst, dNotT, dOrT, dAndT, dAnd, dOr, dNot, dChain, dIf, dSkip, dNever, Tg.set, e_le, e_lt, e_ge, e_gt, e_add, e_sub, List.map_cons, List.map_nil, List.length_cons, List.length_nil, List.replicate, List.cons_append, List.nil_append, List.append_nil, List.getElem?_cons_zero, List.getElem?_cons_succ, List.set_cons_zero, List.set_cons_succ, Nat.sub_self, Nat.reduceSub, Nat.reduceAdd, wipeE, e1, e_len _ lz, n3, decide_false, hlc, l0, hne]
  cases hd : y.all digB with
  | false => simp only [mkF, env0, dSeq, dSet, dIfS, dRet, dRetN, dExp, dBin, dUn, dVar, dC, dCons, dNil, dApp, dMet, dCall, dCallV, b_ok, b_bad, s_ok, f_rt, f_nx, dTB, dTst, dNotT, dOrT, dAndT, dAnd, dOr, dNot, dChain, dIf, dSkip, dNever, Tg.set, e_le, e_lt, e_ge, e_gt, e_add, e_sub, List.map_cons, List.map_nil, List.length_cons, List.length_nil, List.replicate, List.cons_append, List.nil_append, List.append_nil, List.getElem?_cons_zero, List.getElem?_cons_succ, List.set_cons_zero, List.set_cons_succ, Nat.sub_self, Nat.reduceSub, Nat.reduceAdd, wipeE, Bool.not_false, Bool.false_and, Bool.false_eq_true, if_false, eg]
  | true =>
    have hi3 := fun st => int_three l3 (dig_all hd) st
    by_cases hv : v3 y < 997
    · have hv2 : ¬ ((996 : Int) < v3 y) := by omega
      have ap := e_append (p := .int (v3 y)) (s := (s ++ .lst (acc.map .int) :: g) ++ .lst ((y.filter fun c => !digB c).map fun c => .str [c]) :: .lst [] :: []) (a := s.length) (xs := acc.map .int) (by rw [← eg]; exact get_end s _ _) (by rw [List.length_map]; omega)
      have hisl := e_isLst (lst_of (s := (s ++ .lst (acc.map .int) :: g) ++ .lst ((y.filter fun c => !digB c).map fun c => .str [c]) :: .lst [] :: []) (k := s.length) (xs := acc.map .int) (by rw [← eg]; exact get_end s _ _))
      simp only [mkF, env0, dSeq, dSet, dIfS, dRet, dRetN, dExp, dBin, dUn, dVar, dC, dCons, dNil, dApp, dMet, dCall, dCallV, b_ok, b_bad, s_ok, f_rt, f_nx, dTB, dTst, dNotT, dOrT, dAndT, dAnd, dOr, dNot, dChain, dIf, dSkip, dNever, Tg.set, e_le, e_lt, e_ge, e_gt, e_add, e_sub, List.map_cons, List.map_nil, List.length_cons, List.length_nil, List.replicate, List.cons_append, List.nil_append, List.append_nil, List.getElem?_cons_zero, List.getElem?_cons_succ, List.set_cons_zero, List.set_cons_succ, Nat.sub_self, Nat.reduceSub, Nat.reduceAdd, wipeE, Bool.not_true, hi3, hv2, hv, decide_true, decide_false, Bool.and_self, if_true, hisl, ap]
      rw [← eg, set_end]
      simp
    · have hv2 : (996 : Int) < v3 y := by omega
      simp only [mkF, env0, dSeq, dSet, dIfS, dRet, dRetN, dExp, dBin, dUn, dVar, dC, dCons, dNil, dApp, dMet, dCall, dCallV, b_ok, b_bad, s_ok, f_rt, f_nx, dTB, dTst, dNotT, dOrT, dAndT, dAnd, dOr, dNot, dChain, dIf, dSkip, dNever, Tg.set, e_le, e_lt, e_ge, e_gt, e_add, e_sub, List.map_cons, List.map_nil, List.length_cons, List.length_nil, List.replicate, List.cons_append, List.nil_append, List.append_nil, List.getElem?_cons_zero, List.getElem?_cons_succ, List.set_cons_zero, List.set_cons_succ, Nat.sub_self, Nat.reduceSub, Nat.reduceAdd, wipeE, Bool.not_true, hi3, hv2, hv, decide_true, decide_false, Bool.and_false, Bool.false_eq_true, if_false, eg]
theorem is_int (i : Int) (st : Sto) : fIsi .int (.int i) st = .ok (.bl true) st := rfl
theorem is_bool (i : Int) (st : Sto) : fIsi .bool (.int i) st = .ok (.bl false) st := rfl
theorem cellsOf_of : ∀ {xs : List PV} {cs : List Int}, cellsOf xs = some cs → xs = cs.map .int ∧ ∀ c ∈ cs, 0 ≤ c ∧ c < 1000
  | [], cs, h => by
    cases h
    exact ⟨rfl, fun c hc => nomatch hc⟩
  | p :: r, cs, h => by
    cases p <;> simp only [cellsOf] at h <;> try (cases h; done)
    rename_i c
    split at h
    · rename_i hc
      rw [Bool.and_eq_true] at hc
      split at h
      · rename_i ds hd
        cases h
        obtain ⟨e1, e2⟩ := cellsOf_of hd
        refine ⟨by rw [e1]; rfl, fun d hm => ?_⟩
        rcases List.mem_cons.mp hm with rfl | hm
        · exact ⟨of_decide_eq_true hc.1, of_decide_eq_true hc.2⟩
        · exact e2 d hm
      · cases h
    · cases h
theorem cellsOf_ints : ∀ {cs : List Int}, (∀ c ∈ cs, 0 ≤ c ∧ c < 1000) → cellsOf (cs.map .int) = some cs
  | [], _ => rfl
  | c :: r, h => by
    obtain ⟨a, b⟩ := h c List.mem_cons_self
    rw [List.map_cons]
    unfold cellsOf
    rw [decide_eq_true a, decide_eq_true b]
    rw [Bool.and_self, if_pos rfl, cellsOf_ints (fun d hd => h d (List.mem_cons_of_mem _ hd))]
theorem flat_len : ∀ cs : List Int, (cs.map fun c : Int => dg c.toNat).flatten.length = 3 * cs.length
  | [] => rfl
  | c :: r => by
    rw [List.map_cons, List.flatten_cons, List.length_append, flat_len r, List.length_cons]
    show 3 + 3 * r.length = _
    omega
theorem law_window_ok {cs : List Int} (h : ∀ c ∈ cs, 0 ≤ c ∧ c < 1000) (hl : cs.length ≤ 1000) (st : Sto) : ∃ g, m__law_window [.tup (cs.map .int)] st = .ok (.str (winT cs)) (st ++ g) := by
  have hle := dLc_vals (it := dIt (dVar 0)) (i := 1) (ts := dYes) (el := bo__law_window_0) (p := fun _ => true) (h := fun q => match q with
    | .int c => .str (dg c.toNat)
    | _ => .non) (own := [1]) (th := noTh) (env := [some (.tup (cs.map .int)), none]) (st := st) (s := st) (xs := cs.map .int) rfl (by rw [List.length_map]; omega) (fun _ _ _ => rfl) (fun q hq _ acc => by
    obtain ⟨c, hc, rfl⟩ := List.mem_map.mp hq
    obtain ⟨c1, c2⟩ := h c hc
    have e := fun st => three_ok (c := c.toNat) (by omega) st
    rw [show ((c.toNat : Nat) : Int) = c by omega] at e
    simp only [bo__law_window_0, mkF, env0, dSeq, dSet, dIfS, dRet, dRetN, dExp, dBin, dUn, dVar, dC, dCons, dNil, dApp, dMet, dCall, dCallV, b_ok, b_bad, s_ok, f_rt, f_nx, dTB, dTst, dNotT, dOrT, dAndT, dAnd, dOr, dNot, dChain, dIf, dSkip, dNever, Tg.set, e_le, e_lt, e_ge, e_gt, e_add, e_sub, List.map_cons, List.map_nil, List.length_cons, List.length_nil, List.replicate, List.cons_append, List.nil_append, List.append_nil, List.getElem?_cons_zero, List.getElem?_cons_succ, List.set_cons_zero, List.set_cons_succ, Nat.sub_self, Nat.reduceSub, Nat.reduceAdd, wipeE, Nat.beq, if_true, e])
  rw [all_true, List.map_map] at hle
  have hle2 : dLc (dIt (dVar 0)) (.nm 1) (dYes) (bo__law_window_0) [1] noTh [some (.tup (cs.map .int)), none] st = .ok (.ref st.length) (st ++ [.lst ((cs.map fun c : Int => dg c.toNat).map .str)]) := by
    rw [hle, List.map_map]
    rfl
  have fl := flat_len cs
  have hj := e_join0 (lst_end st ((cs.map fun c : Int => dg c.toNat).map .str) []) (Nat.ble_eq_true_of_le (by omega))
  refine ⟨[.lst ((cs.map fun c : Int => dg c.toNat).map .str)], ?_⟩
  have z1 : szOk ([35].length + (cs.map fun c : Int => dg c.toNat).flatten.length) = true := Nat.ble_eq_true_of_le (by rw [fl, List.length_singleton]; omega)
  have z2 : szOk (([35] ++ (cs.map fun c : Int => dg c.toNat).flatten).length + [59].length) = true := Nat.ble_eq_true_of_le (by rw [List.length_append, fl, List.length_singleton, List.length_singleton]; omega)
  have a1 := e_addS (st ++ [.lst ((cs.map fun c : Int => dg c.toNat).map .str)]) z1
  have a2 := e_addS (st ++ [.lst ((cs.map fun c : Int => dg c.toNat).map .str)]) z2
  simp only [m__law_window, d__law_window, mkF, env0, dRet, dBin, dC, dMet, dCons, dNil, b_ok, s_ok, f_rt, isStr, if_true, List.map_cons, List.map_nil, List.length_cons, List.length_nil, Nat.sub_self, Nat.reduceSub, Nat.reduceAdd, List.replicate, List.cons_append, List.nil_append, List.append_nil, hle2, hj]
  rw [show pAdd (.str [35]) (.str (cs.map fun c : Int => dg c.toNat).flatten) _ = _ from a1]
  simp only [b_ok]
  rw [a2]
  rfl
theorem r_law_window : Ref s_law_window m__law_window := Ref.of fun ps st hp hs => by
  unfold s_law_window
  split
  · rename_i xs
    split
    · rename_i cs hc
      split
      · rename_i hl
        obtain ⟨e1, e2⟩ := cellsOf_of hc
        subst e1
        obtain ⟨g, e⟩ := law_window_ok e2 (Nat.le_of_ble_eq_true hl) st
        exact LeR.plain e rfl hs
      · exact trivial
    · exact trivial
  · exact trivial

theorem winV_end {x : List Nat} {p : Nat} (h : x.length ≤ p + 121) : winV x p = none := by
  unfold winV
  rw [if_neg]
  intro z
  rw [Bool.and_eq_true, beq_iff_eq, beq_iff_eq] at z
  have := (List.getElem?_eq_some_iff.mp z.2).1
  omega
theorem winV_told {x : List Nat} {p : Nat} {a b : Nat} (ha : x[p]? = some a) (hb : x[p + 121]? = some b) : winV x p = if a = 35 ∧ b = 59 then told ((x.drop (p + 1)).take 120) else none := by
  unfold winV
  rw [ha, hb]
  by_cases k1 : a = 35
  · by_cases k2 : b = 59
    · subst k1 k2
      rfl
    · rw [if_neg (fun z => by
        rw [Bool.and_eq_true, beq_iff_eq, beq_iff_eq] at z
        exact k2 (Option.some.inj z.2)), if_neg (fun z => k2 z.2)]
  · rw [if_neg (fun z => by
      rw [Bool.and_eq_true, beq_iff_eq, beq_iff_eq] at z
      exact k1 (Option.some.inj z.1)), if_neg (fun z => k1 z.1)]
theorem at_nat {α : Type} {xs : List α} {p : Nat} {v : α} (h : xs[p]? = some v) : atI xs (p : Int) = some v := by
  have hp := (List.getElem?_eq_some_iff.mp h).1
  unfold atI ixN
  rw [if_pos (by omega), if_pos (by omega)]
  exact h
theorem add_new {st : Sto} {k : Nat} {acc L : List PV} (hk : st[k]? = some (.lst acc)) (hz : acc.length + L.length ≤ 16777216) : pAdd (.ref k) (.ref st.length) (st ++ [.lst L]) = .ok (.ref (st ++ [SO.lst L]).length) ((st ++ [.lst L]) ++ [.lst (acc ++ L)]) :=
  e_addL (get_app hk) (get_end st _ []) (Nat.ble_eq_true_of_le hz)
theorem eq_int (i j : Int) (st : Sto) : pEq (.int i) (.int j) st = .ok (.bl (decide (i = j))) st := rfl
theorem Well.w0 {w n : Nat} {st : Sto} (h : Well w n st) : w ≠ 0 := by
  obtain ⟨a, b, c, hg, _, _, hz⟩ := h
  exact hz.ne0 hg
theorem menu4 {y : PV} (h : y ∈ [PV.int 0, .int 7, .int 996, .int 99]) : ∃ c : Int, y = .int c ∧ 0 ≤ c ∧ c < 997 := by
  simp only [List.mem_cons, List.not_mem_nil, or_false] at h
  rcases h with rfl | rfl | rfl | rfl
  · exact ⟨0, rfl, by decide, by decide⟩
  · exact ⟨7, rfl, by decide, by decide⟩
  · exact ⟨996, rfl, by decide, by decide⟩
  · exact ⟨99, rfl, by decide, by decide⟩
theorem cell_step {w n D : Nat} {st : Sto} {way : Int} {acc : List PV} {x : Option PV} (h : Well w n st) (hn : n ≤ 90000) (hD : st[D]? = some (.lst acc)) (hDw : D ≠ w) (hD0 : D ≠ 0) (ha : acc.length < 1000) :
    ∃ c st1, bo__law_cells_0 noTh [some (.ref w), x, some (.int way), some (.ref D)] st = .nx [some (.ref w), x, some (.int way), some (.ref D)] (st1.set D (.lst (acc ++ [.int c]))) ∧ 0 ≤ c ∧ c < 997 ∧ st1[D]? = some (.lst acc) ∧ Well w (n + 1) st1 ∧ Kp [w] st st1 := by
  have il := e_isLst (lst_of hD)
  by_cases hw : way = 0
  · obtain ⟨r, st1, e, r0, r1, w1, s1⟩ := pluck_ok (m := 997) h (by omega) (by decide) (by decide)
    have k1 := Kp.same s1
    have d1 := k1.one hD hDw
    have ap := e_append (p := .int r) d1 (by omega)
    refine ⟨r, st1, ?_, r0, r1, d1, w1, k1⟩
    simp only [bo__law_cells_0, mkF, env0, dSeq, dSet, dIfS, dRet, dRetN, dExp, dBin, dUn, dVar, dC, dCons, dNil, dApp, dMet, dCall, dCallV, b_ok, b_bad, s_ok, f_rt, f_nx, dTB, dTst, dNotT, dOrT, dAndT, dAnd, dOr, dNot, dChain, dIf, dSkip, dNever, Tg.set, e_le, e_lt, e_ge, e_gt, e_add, e_sub, List.map_cons, List.map_nil, List.length_cons, List.length_nil, List.replicate, List.cons_append, List.nil_append, List.append_nil, List.getElem?_cons_zero, List.getElem?_cons_succ, List.set_cons_zero, List.set_cons_succ, Nat.sub_self, Nat.reduceSub, Nat.reduceAdd, wipeE, il, if_true, eq_int, hw, decide_true, Nat.beq, e, ap]
  · have k0 : Kp [w] st (st ++ [.lst [.int 0, .int 7, .int 996, .int 99]]) := Kp.app _ _ _
    obtain ⟨y, st1, e, hy, w1, s1⟩ := some_ok (k := st.length) (h.app (g := [.lst [.int 0, .int 7, .int 996, .int 99]])) (by omega) (get_end st _ []) (by have := h.lt; omega) (by simp) (by simp)
    obtain ⟨c, rfl, c0, c1⟩ := menu4 hy
    have k1 := k0.trans (Kp.same s1)
    have d1 := k1.one hD hDw
    have ap := e_append (p := .int c) d1 (by omega)
    have f4 : ∀ s, fLst [.int 0, .int 7, .int 996, .int 99] s = .ok (.ref s.length) (s ++ [.lst [.int 0, .int 7, .int 996, .int 99]]) := fun s => rfl
    refine ⟨c, st1, ?_, c0, c1, d1, w1, k1⟩
    simp only [bo__law_cells_0, mkF, env0, dSeq, dSet, dIfS, dRet, dRetN, dExp, dBin, dUn, dVar, dC, dCons, dNil, dApp, dMet, dCall, dCallV, b_ok, b_bad, s_ok, f_rt, f_nx, dTB, dTst, dNotT, dOrT, dAndT, dAnd, dOr, dNot, dChain, dIf, dSkip, dNever, Tg.set, e_le, e_lt, e_ge, e_gt, e_add, e_sub, List.map_cons, List.map_nil, List.length_cons, List.length_nil, List.replicate, List.cons_append, List.nil_append, List.append_nil, List.getElem?_cons_zero, List.getElem?_cons_succ, List.set_cons_zero, List.set_cons_succ, Nat.sub_self, Nat.reduceSub, Nat.reduceAdd, wipeE, il, if_true, eq_int, hw, decide_false, Nat.beq, f4, e, ap]
theorem cells_ok {w n : Nat} {st : Sto} (h : Well w n st) (hn : n ≤ 80000) : ∃ (cs : List Int) (st' : Sto), f__law_cells [.ref w] st = .ok (.tup (cs.map .int)) st' ∧ cs.length = 40 ∧ (∀ c ∈ cs, 0 ≤ c ∧ c < 997) ∧ Well w (n + 41) st' ∧ Kp [w] st st' := by
  obtain ⟨r, st1, e, r0, r1, w1, s1⟩ := pluck_ok (m := 3) h (by omega) (by decide) (by decide)
  have k1 := Kp.same s1
  have hlt := h.lt
  have hl1 : st1.length = st.length := s1.1
  have hi : ∀ s, fRng1 [.int 40] s = .ok (.vals (rngV 0 1 40)) s := fun s => e_rng1 s rfl
  obtain ⟨env', st2, e2, x', rfl, cs, c1, c2, c3, c4, c5⟩ := forV_inv (B := 40) (t := .nm 1) (body := bo__law_cells_0) (th := noTh)
    (I := fun m env s => ∃ x, env = [some (.ref w), x, some (.int r), some (.ref st1.length)] ∧ ∃ cs : List Int, s[st1.length]? = some (.lst (cs.map .int)) ∧ cs.length = m ∧ (∀ c ∈ cs, 0 ≤ c ∧ c < 997) ∧ Well w (n + 1 + m) s ∧ Kp [w] st s) (rngV 0 1 40)
    (fun x hx m env s hm ⟨x0, he, cs, c1, c2, c3, c4, c5⟩ => by
      subst he
      obtain ⟨c, s1, f1, f2, f3, f4, f5, f6⟩ := cell_step (w := w) (D := st1.length) (way := r) (x := some x) c4 (by omega) c1 (by omega) (by omega) (by rw [List.length_map]; omega)
      refine ⟨_, rfl, _, _, f1, ⟨_, rfl, cs ++ [c], ?_, by rw [List.length_append, List.length_singleton, c2], fun d hd => ?_, ?_, ?_⟩⟩
      · rw [List.getElem?_set_self (get_lt f4)]
        simp
      · rcases List.mem_append.mp hd with hd | hd
        · exact c3 d hd
        · rw [List.mem_singleton.mp hd]
          exact ⟨f2, f3⟩
      · exact (f5.mono (by omega)).set (by omega) (by omega)
      · exact (c5.trans f6).set (by omega))
    0 [some (.ref w), none, some (.int r), some (.ref st1.length)] (st1 ++ [.lst []]) (by rw [rngV_len]; exact Nat.le_refl _) ⟨none, rfl, [], get_end _ _ _, rfl, (fun c hc => nomatch hc), w1.app, k1.trans (Kp.app _ _ _)⟩
  rw [rngV_len] at c2 c4
  have ht := e_tuple (lst_of c1)
  refine ⟨cs, st2, ?_, c2, c3, c4.mono (by omega), c5⟩
  simp only [f__law_cells, m__law_cells, d__law_cells, dPar, mkF, env0, dSeq, dSet, dIfS, dRet, dRetN, dExp, dBin, dUn, dVar, dC, dCons, dNil, dApp, dMet, dCall, dCallV, b_ok, b_bad, s_ok, f_rt, f_nx, dTB, dTst, dNotT, dOrT, dAndT, dAnd, dOr, dNot, dChain, dIf, dSkip, dNever, Tg.set, e_le, e_lt, e_ge, e_gt, e_add, e_sub, List.map_cons, List.map_nil, List.length_cons, List.length_nil, List.replicate, List.cons_append, List.nil_append, List.append_nil, List.getElem?_cons_zero, List.getElem?_cons_succ, List.set_cons_zero, List.set_cons_succ, Nat.sub_self, Nat.reduceSub, Nat.reduceAdd, wipeE, Nat.beq, if_true, e, e_lst0, dFor, dRng, hi]
  rw [show forV (.nm 1) bo__law_cells_0 noTh (rngV 0 1 40) [some (.ref w), none, some (.int r), some (.ref st1.length)] (st1 ++ [.lst []]) = _ from e2]
  simp only [mkF, env0, dSeq, dSet, dIfS, dRet, dRetN, dExp, dBin, dUn, dVar, dC, dCons, dNil, dApp, dMet, dCall, dCallV, b_ok, b_bad, s_ok, f_rt, f_nx, dTB, dTst, dNotT, dOrT, dAndT, dAnd, dOr, dNot, dChain, dIf, dSkip, dNever, Tg.set, e_le, e_lt, e_ge, e_gt, e_add, e_sub, List.map_cons, List.map_nil, List.length_cons, List.length_nil, List.replicate, List.cons_append, List.nil_append, List.append_nil, List.getElem?_cons_zero, List.getElem?_cons_succ, List.set_cons_zero, List.set_cons_succ, Nat.sub_self, Nat.reduceSub, Nat.reduceAdd, wipeE, ht]
theorem dg_sg {c : Nat} (h : c < 1000) : ∀ d ∈ dg c, 48 ≤ d ∧ d ≤ 57 := by
  intro d hd
  unfold dg at hd
  simp only [List.mem_cons, List.not_mem_nil, or_false] at hd
  rcases hd with rfl | rfl | rfl <;> omega
theorem winT_len {cs : List Int} (h : cs.length = 40) : (winT cs).length = 122 := by
  unfold winT
  rw [List.length_cons, List.length_append, flat_len, List.length_singleton, h]
theorem sg_dig {c : Nat} (h : 48 ≤ c ∧ c ≤ 57) : sgB c = true := by
  unfold sgB
  rw [decide_eq_true (by omega), decide_eq_true (by omega)]
  rfl
theorem winT_sg {cs : List Int} (h : ∀ c ∈ cs, 0 ≤ c ∧ c < 1000) : (winT cs).all sgB = true := by
  refine List.all_eq_true.mpr fun d hd => ?_
  unfold winT at hd
  rcases List.mem_cons.mp hd with rfl | hd
  · rfl
  · rcases List.mem_append.mp hd with hd | hd
    · obtain ⟨l, hl, hdl⟩ := List.mem_flatten.mp hd
      obtain ⟨c, hc, rfl⟩ := List.mem_map.mp hl
      have := h c hc
      exact sg_dig (dg_sg (by omega) d hdl)
    · rw [List.mem_singleton.mp hd]
      rfl
theorem window_f {cs : List Int} (h : ∀ c ∈ cs, 0 ≤ c ∧ c < 1000) (hl : cs.length ≤ 1000) (st : Sto) : f__law_window [.tup (cs.map .int)] st = .ok (.str (winT cs)) st := by
  show s_law_window _ st = _
  unfold s_law_window
  dsimp only
  rw [cellsOf_ints h]
  dsimp only
  rw [if_pos (Nat.ble_eq_true_of_le hl)]
theorem all_take {x : List Nat} {p : Nat → Bool} (h : x.all p = true) (n : Nat) : (x.take n).all p = true := List.all_eq_true.mpr fun c hc => List.all_eq_true.mp h c (List.mem_of_mem_take hc)
theorem all_drop {x : List Nat} {p : Nat → Bool} (h : x.all p = true) (n : Nat) : (x.drop n).all p = true := List.all_eq_true.mpr fun c hc => List.all_eq_true.mp h c (List.mem_of_mem_drop hc)
end K09
end
section
set_option maxRecDepth 100000
set_option maxHeartbeats 4000000
namespace K09
open PySem PySem.Spec PyProof.Rows L2 Mi
/-! ### what is judged -/
theorem ty_strP {st : Sto} {p : PV} (h : tyOf st p = some .str) : ∃ x, p = .str x := by
  cases p <;> simp only [tyOf] at h <;> try (cases h; done)
  · exact ⟨_, rfl⟩
  · split at h <;> cases h
theorem isi_str {st : Sto} {p : PV} {t : Ty} (h : tyOf st p = some t) (h2 : t ≠ .str) : fIsi .str p st = .ok (.bl false) st := by
  unfold fIsi
  rw [h]
  cases t <;> first | rfl | exact absurd rfl h2
theorem r_is_text : Ref s_is_text m_is_text := Ref.of fun ps st hp hs => by
  unfold s_is_text
  split
  · rename_i p
    split
    · rename_i ht
      obtain ⟨x, rfl⟩ := ty_strP ht
      dsimp only
      split
      · rename_i h
        exact LeR.plain (is_text_ok (Nat.le_of_ble_eq_true h) st) rfl hs
      · exact trivial
    · rename_i t ht h2
      refine LeR.plain (g := []) ?_ rfl hs
      have e := isi_str h2 ht
      simp only [m_is_text, d_is_text, mkF, env0, dSeq, dSet, dIfS, dRet, dRetN, dExp, dBin, dUn, dVar, dC, dCons, dNil, dApp, dMet, dCall, dCallV, b_ok, b_bad, s_ok, f_rt, f_nx, dTB, dTst, dNotT, dOrT, dAndT, dAnd, dOr, dNot, dChain, dIf, dSkip, dNever, Tg.set, e_le, e_lt, e_ge, e_gt, e_add, e_sub, List.map_cons, List.map_nil, List.length_cons, List.length_nil, List.replicate, List.cons_append, List.nil_append, List.append_nil, List.getElem?_cons_zero, List.getElem?_cons_succ, List.set_cons_zero, List.set_cons_succ, Nat.sub_self, Nat.reduceSub, Nat.reduceAdd, wipeE, e, pTru, Bool.not_false]
    · exact trivial
  · exact trivial
theorem is_text_f {x : List Nat} (h : x.length ≤ 60000) (st : Sto) : f_is_text [.str x] st = .ok (.bl (x.all sgB)) st := by
  show s_is_text _ st = _
  unfold s_is_text tyOf
  dsimp only
  rw [if_pos (Nat.ble_eq_true_of_le h)]
theorem r_require_text : Ref s_require_text m_require_text := Ref.of fun ps st hp hs => by
  unfold s_require_text
  split
  · rename_i x
    split
    · rename_i h
      obtain ⟨h1, h2, _⟩ := okT_of h
      refine LeR.plain (g := []) ?_ rfl hs
      have e := is_text_f h1 st
      rw [h2] at e
      simp only [m_require_text, d_require_text, mkF, env0, dSeq, dSet, dIfS, dRet, dRetN, dExp, dBin, dUn, dVar, dC, dCons, dNil, dApp, dMet, dCall, dCallV, b_ok, b_bad, s_ok, f_rt, f_nx, dTB, dTst, dNotT, dOrT, dAndT, dAnd, dOr, dNot, dChain, dIf, dSkip, dNever, Tg.set, e_le, e_lt, e_ge, e_gt, e_add, e_sub, List.map_cons, List.map_nil, List.length_cons, List.length_nil, List.replicate, List.cons_append, List.nil_append, List.append_nil, List.getElem?_cons_zero, List.getElem?_cons_succ, List.set_cons_zero, List.set_cons_succ, Nat.sub_self, Nat.reduceSub, Nat.reduceAdd, wipeE, Nat.beq, if_true, e, pTru, Bool.not_true]
    · exact trivial
  · exact trivial
theorem winV_short {x : List Nat} (h : ¬ (x.length = 122)) : winB x = false := by
  unfold winB
  rw [decide_eq_false h]
  rfl
theorem is_window_ok {x : List Nat} (h : okT x = true) (st : Sto) : m_is_window [.str x] st = .ok (.bl (winB x)) st := by
  obtain ⟨h1, h2, hz⟩ := okT_of h
  have e0 : fIsi .str (.str x) st = .ok (.bl true) st := rfl
  by_cases hl : x.length = 122
  · have hl2 : (x.length : Int) = 122 := by omega
    have hw := window_at_f (p := 0) h (by omega) st
    have hw' : f_window_at [.str x, .int 0] st = .ok (optT (winV x 0)) st := hw
    have eb : winB x = (winV x 0).isSome := by
      unfold winB
      rw [decide_eq_true hl]
      rfl
    rw [eb]
    simp only [m_is_window, d_is_window, mkF, env0, dSeq, dSet, dIfS, dRet, dRetN, dExp, dBin, dUn, dVar, dC, dCons, dNil, dApp, dMet, dCall, dCallV, b_ok, b_bad, s_ok, f_rt, f_nx, dTB, dTst, dNotT, dOrT, dAndT, dAnd, dOr, dNot, dChain, dIf, dSkip, dNever, Tg.set, e_le, e_lt, e_ge, e_gt, e_add, e_sub, List.map_cons, List.map_nil, List.length_cons, List.length_nil, List.replicate, List.cons_append, List.nil_append, List.append_nil, List.getElem?_cons_zero, List.getElem?_cons_succ, List.set_cons_zero, List.set_cons_succ, Nat.sub_self, Nat.reduceSub, Nat.reduceAdd, wipeE, e0, e_len _ hz, eq_int, decide_eq_true hl2, Nat.beq, if_true, hw']
    cases winV x 0 <;> rfl
  · have hl2 : ¬ ((x.length : Int) = 122) := by omega
    rw [winV_short hl]
    simp only [m_is_window, d_is_window, mkF, env0, dSeq, dSet, dIfS, dRet, dRetN, dExp, dBin, dUn, dVar, dC, dCons, dNil, dApp, dMet, dCall, dCallV, b_ok, b_bad, s_ok, f_rt, f_nx, dTB, dTst, dNotT, dOrT, dAndT, dAnd, dOr, dNot, dChain, dIf, dSkip, dNever, Tg.set, e_le, e_lt, e_ge, e_gt, e_add, e_sub, List.map_cons, List.map_nil, List.length_cons, List.length_nil, List.replicate, List.cons_append, List.nil_append, List.append_nil, List.getElem?_cons_zero, List.getElem?_cons_succ, List.set_cons_zero, List.set_cons_succ, Nat.sub_self, Nat.reduceSub, Nat.reduceAdd, wipeE, e0, e_len _ hz, eq_int, decide_eq_false hl2]
theorem r_is_window : Ref s_is_window m_is_window := Ref.of fun ps st hp hs => by
  unfold s_is_window
  split
  · rename_i p
    split
    · rename_i ht
      obtain ⟨x, rfl⟩ := ty_strP ht
      dsimp only
      split
      · rename_i h
        exact LeR.plain (g := []) (by rw [is_window_ok h, List.append_nil]) rfl hs
      · exact trivial
    · rename_i t ht h2
      refine LeR.plain (g := []) ?_ rfl hs
      have e := isi_str h2 ht
      simp only [m_is_window, d_is_window, mkF, env0, dSeq, dSet, dIfS, dRet, dRetN, dExp, dBin, dUn, dVar, dC, dCons, dNil, dApp, dMet, dCall, dCallV, b_ok, b_bad, s_ok, f_rt, f_nx, dTB, dTst, dNotT, dOrT, dAndT, dAnd, dOr, dNot, dChain, dIf, dSkip, dNever, Tg.set, e_le, e_lt, e_ge, e_gt, e_add, e_sub, List.map_cons, List.map_nil, List.length_cons, List.length_nil, List.replicate, List.cons_append, List.nil_append, List.append_nil, List.getElem?_cons_zero, List.getElem?_cons_succ, List.set_cons_zero, List.set_cons_succ, Nat.sub_self, Nat.reduceSub, Nat.reduceAdd, wipeE, e]
    · exact trivial
  · exact trivial
theorem r_window_cells : Ref s_window_cells m_window_cells := Ref.of fun ps st hp hs => by
  unfold s_window_cells
  split
  · rename_i x
    split
    · rename_i h
      obtain ⟨h1, h2, hz⟩ := okT_of h
      by_cases hl : x.length = 122
      · rw [if_pos hl]
        have hl2 : (x.length : Int) = 122 := by omega
        have hw' : f_window_at [.str x, .int 0] st = .ok (optT (winV x 0)) st := window_at_f (p := 0) h (by omega) st
        refine LeR.plain (g := []) ?_ (optT_cl _ _) hs
        simp only [m_window_cells, d_window_cells, mkF, env0, dSeq, dSet, dIfS, dRet, dRetN, dExp, dBin, dUn, dVar, dC, dCons, dNil, dApp, dMet, dCall, dCallV, b_ok, b_bad, s_ok, f_rt, f_nx, dTB, dTst, dNotT, dOrT, dAndT, dAnd, dOr, dNot, dChain, dIf, dSkip, dNever, Tg.set, e_le, e_lt, e_ge, e_gt, e_add, e_sub, List.map_cons, List.map_nil, List.length_cons, List.length_nil, List.replicate, List.cons_append, List.nil_append, List.append_nil, List.getElem?_cons_zero, List.getElem?_cons_succ, List.set_cons_zero, List.set_cons_succ, Nat.sub_self, Nat.reduceSub, Nat.reduceAdd, wipeE, Nat.beq, if_true, req_f h, e_len _ hz, eq_int, decide_eq_true hl2, hw']
      · rw [if_neg hl]
        have hl2 : ¬ ((x.length : Int) = 122) := by omega
        refine LeR.plain (g := []) ?_ rfl hs
        simp only [m_window_cells, d_window_cells, mkF, env0, dSeq, dSet, dIfS, dRet, dRetN, dExp, dBin, dUn, dVar, dC, dCons, dNil, dApp, dMet, dCall, dCallV, b_ok, b_bad, s_ok, f_rt, f_nx, dTB, dTst, dNotT, dOrT, dAndT, dAnd, dOr, dNot, dChain, dIf, dSkip, dNever, Tg.set, e_le, e_lt, e_ge, e_gt, e_add, e_sub, List.map_cons, List.map_nil, List.length_cons, List.length_nil, List.replicate, List.cons_append, List.nil_append, List.append_nil, List.getElem?_cons_zero, List.getElem?_cons_succ, List.set_cons_zero, List.set_cons_succ, Nat.sub_self, Nat.reduceSub, Nat.reduceAdd, wipeE, Nat.beq, if_true, req_f h, e_len _ hz, eq_int, decide_eq_false hl2]
    · exact trivial
  · exact trivial
/-! ### the law's own reading of any text -/
theorem told_loop {x : List Nat} {s : Sto} {d : Option PV} {ys : List PV} (h : okT x = true) : ∀ (n i : Nat) (acc : List Int) (g : Sto) (a b : Option PV), 3 * (i + n) ≤ x.length → acc.length = i →
    (∃ vs a' b' g', toldFrom x i n = some vs ∧ forV (.nm 2) bo__law_told_1 noTh (rngV ((3 * i : Nat) : Int) 3 n ++ ys) [some (.str x), some (.ref s.length), a, b, d] (s ++ .lst (acc.map .int) :: g) = forV (.nm 2) bo__law_told_1 noTh ys [some (.str x), some (.ref s.length), a', b', d] (s ++ .lst ((acc ++ vs).map .int) :: g')) ∨
    (toldFrom x i n = none ∧ ∃ g', forV (.nm 2) bo__law_told_1 noTh (rngV ((3 * i : Nat) : Int) 3 n ++ ys) [some (.str x), some (.ref s.length), a, b, d] (s ++ .lst (acc.map .int) :: g) = .rt .non (s ++ g'))
  | 0, i, acc, g, a, b, hl, ha => .inl ⟨[], a, b, g, rfl, by rw [List.append_nil]; rfl⟩
  | n + 1, i, acc, g, a, b, hl, ha => by
    have h1 := (okT_of h).1
    obtain ⟨g1, e⟩ := chunk_ok (i := i) (s := s) (g := g) (acc := acc) (b := b) (d := d) h (by omega) (by omega)
    have er : ((3 * i : Nat) : Int) + 3 = ((3 * (i + 1) : Nat) : Int) := by omega
    by_cases hc : (((x.drop (3 * i)).take 3).all digB && decide (v3 ((x.drop (3 * i)).take 3) < 997)) = true
    · rw [if_pos hc] at e
      rcases told_loop (d := d) (ys := ys) h n (i + 1) (acc ++ [v3 ((x.drop (3 * i)).take 3)]) g1 (some (.int ((3 * i : Nat) : Int))) (some (.str ((x.drop (3 * i)).take 3))) (by omega) (by rw [List.length_append, List.length_singleton, ha]) with ⟨vs, a', b', g', e1, e2⟩ | ⟨e1, g', e2⟩
      · refine .inl ⟨v3 ((x.drop (3 * i)).take 3) :: vs, a', b', g', by rw [toldFrom, if_pos hc, e1]; rfl, ?_⟩
        rw [rngV, er, List.cons_append]
        conv => lhs; unfold forV
        simp only [Tg.set, List.set_cons_succ, List.set_cons_zero]
        rw [e]
        dsimp only
        rw [e2, List.append_assoc]
        rfl
      · refine .inr ⟨by rw [toldFrom, if_pos hc, e1]; rfl, g', ?_⟩
        rw [rngV, er, List.cons_append]
        unfold forV
        simp only [Tg.set, List.set_cons_succ, List.set_cons_zero]
        rw [e]
        dsimp only
        rw [e2]
    · rw [if_neg hc] at e
      refine .inr ⟨by rw [toldFrom, if_neg hc], .lst (acc.map .int) :: g1, ?_⟩
      rw [rngV, List.cons_append]
      unfold forV
      simp only [Tg.set, List.set_cons_succ, List.set_cons_zero]
      rw [e]
theorem rngV_add (c : Int) : ∀ (a : Nat) (lo : Int) (b : Nat), rngV lo c (a + b) = rngV lo c a ++ rngV (lo + a * c) c b
  | 0, lo, b => by rw [Nat.zero_add, rngV, List.nil_append]; congr 1; simp
  | a + 1, lo, b => by
    have e : lo + c + a * c = lo + ((a + 1 : Nat) : Int) * c := by
      push_cast
      rw [Int.add_mul]
      omega
    rw [show a + 1 + b = (a + b) + 1 by omega, rngV, rngV, rngV_add c a (lo + c) b, List.cons_append, e]
theorem size_up (m : Nat) : Builtin.Range.rangeSize 0 (m : Int) 3 = ((m + 2) / 3 : Nat) := by
  unfold Builtin.Range.rangeSize
  simp
  split <;> omega
theorem rng_up {m : Nat} (hm : m ≤ 60000) (st : Sto) : fRng3 [.int 0, .int (m : Int), .int 3] st = .ok (.vals (rngV 0 3 ((m + 2) / 3))) st := by
  have e := size_up m
  have et : (Builtin.Range.rangeSize 0 (m : Int) 3).toNat = (m + 2) / 3 := by rw [e]; omega
  have h : okC 0 (m : Int) 3 (Builtin.Range.rangeSize 0 (m : Int) 3).toNat = true := by
    unfold okC
    rw [Bool.and_eq_true, Bool.and_eq_true, Bool.and_eq_true]
    refine ⟨⟨⟨rfl, rfl⟩, ?_⟩, ?_⟩
    · unfold Builtin.Range.small
      rw [e]
      simp [Builtin.Range.rangeFitsLong]
      omega
    · rw [beq_iff_eq, et, e]
  unfold fRng3
  dsimp only
  rw [if_pos h, et]
theorem chunk_short {x : List Nat} {i : Nat} {a b d : Option PV} (h : okT x = true) (h1 : 3 * i ≤ x.length) (h2 : x.length < 3 * i + 3) (s : Sto) : bo__law_told_1 noTh [some (.str x), a, some (.int ((3 * i : Nat) : Int)), b, d] s = .rt .non s := by
  obtain ⟨_, _, hz⟩ := okT_of h
  have e1 : ∀ st, fSl (.str x) (some ((3 * i : Nat) : Int)) (some (((3 * i : Nat) : Int) + 3)) st = .ok (.str ((x.drop (3 * i)).take 3)) st := fun st => by
    have e := e_cut (x := x) (i := 3 * i) (j := 3 * i + 3) (by omega) (by omega) hz st
    rw [show 3 * i + 3 - 3 * i = 3 by omega] at e
    exact e
  have hl : ((x.drop (3 * i)).take 3).length < 3 := by
    rw [List.length_take, List.length_drop]
    omega
  generalize (x.drop (3 * i)).take 3 = y at *
  have n3 : (y.length : Int) < 3 := by omega
  have lz : szOk y.length = true := Nat.ble_eq_true_of_le (by omega)
  simp only [bo__law_told_1, dSl, dPt, mkF, env0, dSeq, dSet, dIfS, dRet, dRetN, dExp, dBin, dUn, dVar, dC, dCons, dNil, dApp, dMet, dCall, dCallV, b_ok, b_bad, s_ok, f_rt, f_nx, dTB, dTst, dNotT, dOrT, dAndT, dAnd, dOr, dNot, dChain, dIf, dSkip, dNever, Tg.set, e_le, e_lt, e_ge, e_gt, e_add, e_sub, List.map_cons, List.map_nil, List.length_cons, List.length_nil, List.replicate, List.cons_append, List.nil_append, List.append_nil, List.getElem?_cons_zero, List.getElem?_cons_succ, List.set_cons_zero, List.set_cons_succ, Nat.sub_self, Nat.reduceSub, Nat.reduceAdd, wipeE, e1, e_len _ lz, n3, decide_true]
theorem law_told_ok {x : List Nat} (h : okT x = true) (st : Sto) : ∃ g, m__law_told [.str x] st = .ok (optT (told x)) (st ++ g) := by
  obtain ⟨h1, h2, hz⟩ := okT_of h
  have hi : dRng fRng3 (dCons (dC (.int 0)) (dCons (dApp fLen (dCons (dVar 0) (dNil))) (dCons (dC (.int 3)) (dNil)))) noTh [some (.str x), some (.ref st.length), none, none, none] (st ++ [.lst []]) = .ok (.vals (rngV 0 3 ((x.length + 2) / 3))) (st ++ [.lst []]) := by
    rw [it_gen fRng3 hz]
    exact rng_up h1 _
  by_cases hm : x.length % 3 = 0
  · have hn : (x.length + 2) / 3 = x.length / 3 := by omega
    rw [hn] at hi
    have hlp := told_loop (s := st) (d := none) (ys := []) h (x.length / 3) 0 [] [] none none (by omega) rfl
    rw [List.append_nil] at hlp
    rw [told_from (n := x.length / 3) (by omega)]
    rcases hlp with ⟨vs, a', b', g', e1, e2⟩ | ⟨e1, g', e2⟩
    · rw [e1]
      refine ⟨.lst (vs.map .int) :: g', ?_⟩
      rw [List.nil_append] at e2
      have ht := e_tuple (lst_end st (vs.map .int) g')
      simp only [m__law_told, d__law_told, mkF, env0, dSeq, dSet, dIfS, dRet, dRetN, dExp, dBin, dUn, dVar, dC, dCons, dNil, dApp, dMet, dCall, dCallV, b_ok, b_bad, s_ok, f_rt, f_nx, dTB, dTst, dNotT, dOrT, dAndT, dAnd, dOr, dNot, dChain, dIf, dSkip, dNever, Tg.set, e_le, e_lt, e_ge, e_gt, e_add, e_sub, List.map_cons, List.map_nil, List.length_cons, List.length_nil, List.replicate, List.cons_append, List.nil_append, List.append_nil, List.getElem?_cons_zero, List.getElem?_cons_succ, List.set_cons_zero, List.set_cons_succ, Nat.sub_self, Nat.reduceSub, Nat.reduceAdd, wipeE, e_lst0, dFor, hi]
      rw [show forV (.nm 2) bo__law_told_1 noTh (rngV 0 3 (x.length / 3)) [some (.str x), some (.ref st.length), none, none, none] (st ++ [.lst []]) = _ from e2]
      unfold forV
      simp only [mkF, env0, dSeq, dSet, dIfS, dRet, dRetN, dExp, dBin, dUn, dVar, dC, dCons, dNil, dApp, dMet, dCall, dCallV, b_ok, b_bad, s_ok, f_rt, f_nx, dTB, dTst, dNotT, dOrT, dAndT, dAnd, dOr, dNot, dChain, dIf, dSkip, dNever, Tg.set, e_le, e_lt, e_ge, e_gt, e_add, e_sub, List.map_cons, List.map_nil, List.length_cons, List.length_nil, List.replicate, List.cons_append, List.nil_append, List.append_nil, List.getElem?_cons_zero, List.getElem?_cons_succ, List.set_cons_zero, List.set_cons_succ, Nat.sub_self, Nat.reduceSub, Nat.reduceAdd, wipeE, ht, optT]
    · rw [e1]
      refine ⟨g', ?_⟩
      simp only [m__law_told, d__law_told, mkF, env0, dSeq, dSet, dIfS, dRet, dRetN, dExp, dBin, dUn, dVar, dC, dCons, dNil, dApp, dMet, dCall, dCallV, b_ok, b_bad, s_ok, f_rt, f_nx, dTB, dTst, dNotT, dOrT, dAndT, dAnd, dOr, dNot, dChain, dIf, dSkip, dNever, Tg.set, e_le, e_lt, e_ge, e_gt, e_add, e_sub, List.map_cons, List.map_nil, List.length_cons, List.length_nil, List.replicate, List.cons_append, List.nil_append, List.append_nil, List.getElem?_cons_zero, List.getElem?_cons_succ, List.set_cons_zero, List.set_cons_succ, Nat.sub_self, Nat.reduceSub, Nat.reduceAdd, wipeE, e_lst0, dFor, hi]
      rw [show forV (.nm 2) bo__law_told_1 noTh (rngV 0 3 (x.length / 3)) [some (.str x), some (.ref st.length), none, none, none] (st ++ [.lst []]) = _ from e2]
      rfl
  · have hn : (x.length + 2) / 3 = x.length / 3 + 1 := by omega
    rw [hn, rngV_add] at hi
    have ez : rngV (0 + ((x.length / 3 : Nat) : Int) * 3) 3 1 = [.int ((3 * (x.length / 3) : Nat) : Int)] := by
      rw [rngV]
      congr 2
      omega
    rw [ez] at hi
    have hlp := told_loop (s := st) (d := none) (ys := [.int ((3 * (x.length / 3) : Nat) : Int)]) h (x.length / 3) 0 [] [] none none (by omega) rfl
    rw [told_none1 hm]
    rcases hlp with ⟨vs, a', b', g', e1, e2⟩ | ⟨e1, g', e2⟩
    · refine ⟨.lst (([] ++ vs).map .int) :: g', ?_⟩
      have hs := chunk_short (i := x.length / 3) (a := some (.ref st.length)) (b := b') (d := none) h (by omega) (by omega) (st ++ .lst (([] ++ vs).map .int) :: g')
      have hf : forV (.nm 2) bo__law_told_1 noTh [.int ((3 * (x.length / 3) : Nat) : Int)] [some (.str x), some (.ref st.length), a', b', none] (st ++ .lst (([] ++ vs).map .int) :: g') = .rt .non (st ++ .lst (([] ++ vs).map .int) :: g') := by
        unfold forV
        simp only [Tg.set, List.set_cons_succ, List.set_cons_zero]
        rw [hs]
      have e3 := e2.trans hf
      simp only [m__law_told, d__law_told, mkF, env0, dSeq, dSet, dIfS, dRet, dRetN, dExp, dBin, dUn, dVar, dC, dCons, dNil, dApp, dMet, dCall, dCallV, b_ok, b_bad, s_ok, f_rt, f_nx, dTB, dTst, dNotT, dOrT, dAndT, dAnd, dOr, dNot, dChain, dIf, dSkip, dNever, Tg.set, e_le, e_lt, e_ge, e_gt, e_add, e_sub, List.map_cons, List.map_nil, List.length_cons, List.length_nil, List.replicate, List.cons_append, List.nil_append, List.append_nil, List.getElem?_cons_zero, List.getElem?_cons_succ, List.set_cons_zero, List.set_cons_succ, Nat.sub_self, Nat.reduceSub, Nat.reduceAdd, wipeE, e_lst0, dFor, hi]
      rw [show forV (.nm 2) bo__law_told_1 noTh (rngV 0 3 (x.length / 3) ++ [.int ((3 * (x.length / 3) : Nat) : Int)]) [some (.str x), some (.ref st.length), none, none, none] (st ++ [.lst []]) = _ from e3]
      rfl
    · refine ⟨g', ?_⟩
      simp only [m__law_told, d__law_told, mkF, env0, dSeq, dSet, dIfS, dRet, dRetN, dExp, dBin, dUn, dVar, dC, dCons, dNil, dApp, dMet, dCall, dCallV, b_ok, b_bad, s_ok, f_rt, f_nx, dTB, dTst, dNotT, dOrT, dAndT, dAnd, dOr, dNot, dChain, dIf, dSkip, dNever, Tg.set, e_le, e_lt, e_ge, e_gt, e_add, e_sub, List.map_cons, List.map_nil, List.length_cons, List.length_nil, List.replicate, List.cons_append, List.nil_append, List.append_nil, List.getElem?_cons_zero, List.getElem?_cons_succ, List.set_cons_zero, List.set_cons_succ, Nat.sub_self, Nat.reduceSub, Nat.reduceAdd, wipeE, e_lst0, dFor, hi]
      rw [show forV (.nm 2) bo__law_told_1 noTh (rngV 0 3 (x.length / 3) ++ [.int ((3 * (x.length / 3) : Nat) : Int)]) [some (.str x), some (.ref st.length), none, none, none] (st ++ [.lst []]) = _ from e2]
      rfl
theorem r_law_told : Ref s_law_told m__law_told := Ref.of fun ps st hp hs => by
  unfold s_law_told s_cells_told
  split
  · rename_i x
    split
    · rename_i h
      obtain ⟨g, e⟩ := law_told_ok h st
      exact LeR.plain e (optT_cl _ _) hs
    · exact trivial
  · exact trivial
theorem law_told_f {x : List Nat} (h : okT x = true) (st : Sto) : f__law_told [.str x] st = .ok (optT (told x)) st := cells_told_f h st
end K09
end
section
set_option maxRecDepth 100000
set_option maxHeartbeats 4000000
namespace K09
open PySem PySem.Spec PyProof.Rows L2 Mi
/-! ### digits of cells lead back -/
theorem v3_dg {c : Int} (h0 : 0 ≤ c) (h1 : c < 1000) : v3 (dg c.toNat) = c := by
  unfold dg v3
  dsimp only
  omega
theorem flat_cons (c : Int) (r : List Int) : flat (c :: r) = dg c.toNat ++ flat r := rfl
theorem nums_shift {a x : List Nat} (h : a.length = 3) : ∀ (n i : Nat), nums (a ++ x) (i + 1) n = nums x i n
  | 0, _ => rfl
  | n + 1, i => by
    rw [nums, nums, nums_shift h n (i + 1)]
    congr 3
    rw [show 3 * (i + 1) = a.length + 3 * i by omega, List.drop_append, Nat.add_sub_cancel_left, List.drop_of_length_le (show a.length ≤ a.length + 3 * i by omega), List.nil_append]
theorem nums_flat : ∀ {cs : List Int}, (∀ c ∈ cs, 0 ≤ c ∧ c < 1000) → nums (flat cs) 0 cs.length = cs
  | [], _ => rfl
  | c :: r, h => by
    obtain ⟨a, b⟩ := h c List.mem_cons_self
    rw [List.length_cons, nums, flat_cons, nums_shift rfl, nums_flat (fun d hd => h d (List.mem_cons_of_mem _ hd))]
    congr 1
    show v3 (dg c.toNat) = c
    exact v3_dg a b
theorem flat_dig {cs : List Int} (h : ∀ c ∈ cs, 0 ≤ c ∧ c < 1000) : (flat cs).all digB = true := List.all_eq_true.mpr fun d hd => by
  obtain ⟨l, hl, hdl⟩ := List.mem_flatten.mp hd
  obtain ⟨c, hc, rfl⟩ := List.mem_map.mp hl
  obtain ⟨c1, c2⟩ := h c hc
  obtain ⟨a, b⟩ := dg_sg (c := c.toNat) (by omega) d hdl
  unfold digB
  rw [decide_eq_true a, decide_eq_true b]
  rfl
theorem flat_length (cs : List Int) : (flat cs).length = 3 * cs.length := flat_len cs
theorem told_flat {cs : List Int} (h : ∀ c ∈ cs, 0 ≤ c ∧ c < 997) : told (flat cs) = some cs := by
  have h' : ∀ c ∈ cs, 0 ≤ c ∧ c < 1000 := fun c hc => by have := h c hc; omega
  have hn : (flat cs).length / 3 = cs.length := by rw [flat_length]; omega
  have ha : (cs.all fun v => decide (v < 997)) = true := List.all_eq_true.mpr fun c hc => decide_eq_true (h c hc).2
  unfold told
  rw [hn, nums_flat h', flat_dig h', ha, show ((flat cs).length % 3 == 0) = true from beq_iff_eq.mpr (by rw [flat_length]; omega)]
  rfl
theorem flat_sg {cs : List Int} (h : ∀ c ∈ cs, 0 ≤ c ∧ c < 1000) : (flat cs).all sgB = true := List.all_eq_true.mpr fun d hd => by
  have := List.all_eq_true.mp (flat_dig h) d hd
  unfold digB at this
  rw [Bool.and_eq_true] at this
  exact sg_dig ⟨of_decide_eq_true this.1, of_decide_eq_true this.2⟩
theorem winV_winT {cs : List Int} (h : ∀ c ∈ cs, 0 ≤ c ∧ c < 997) (hl : cs.length = 40) : winV (winT cs) 0 = some cs := by
  have e : winT cs = 35 :: (flat cs ++ [59]) := rfl
  have fl := flat_length cs
  have g0 : (winT cs)[0]? = some 35 := rfl
  have g1 : (winT cs)[0 + 121]? = some 59 := by
    rw [e, show 0 + 121 = 120 + 1 from rfl, List.getElem?_cons_succ, List.getElem?_append_right (by omega), show 120 - (flat cs).length = 0 by omega]
    rfl
  have g2 : ((winT cs).drop (0 + 1)).take 120 = flat cs := by
    rw [e]
    show (flat cs ++ [59]).take 120 = flat cs
    rw [show 120 = (flat cs).length by omega, List.take_left]
  unfold winV
  rw [g0, g1, g2, told_flat h]
  rfl
/-! ### the package's defs on cells -/
theorem is_cell_ok {c : Int} (h0 : 0 ≤ c) (h1 : c < 997) (st : Sto) : f_is_cell [.int c] st = .ok (.bl true) st := by
  have h2 : c ≤ 996 := by omega
  simp only [f_is_cell, m_is_cell, d_is_cell, f_is_within, m_is_within, d_is_within, f_is_whole, m_is_whole, d_is_whole, mkF, env0, dSeq, dSet, dIfS, dRet, dRetN, dExp, dBin, dUn, dVar, dC, dCons, dNil, dApp, dMet, dCall, dCallV, b_ok, b_bad, s_ok, f_rt, f_nx, dTB, dTst, dNotT, dOrT, dAndT, dAnd, dOr, dNot, dChain, dIf, dSkip, dNever, Tg.set, e_le, e_lt, e_ge, e_gt, e_add, e_sub, List.map_cons, List.map_nil, List.length_cons, List.length_nil, List.replicate, List.cons_append, List.nil_append, List.append_nil, List.getElem?_cons_zero, List.getElem?_cons_succ, List.set_cons_zero, List.set_cons_succ, Nat.sub_self, Nat.reduceSub, Nat.reduceAdd, wipeE, Nat.beq, if_true, is_int, is_bool, pTru, Bool.not_false, h0, h2, decide_true]
theorem cells9_of : ∀ {xs : List PV} {cs : List Int}, cells9 xs = some cs → xs = cs.map .int ∧ ∀ c ∈ cs, 0 ≤ c ∧ c < 997
  | [], cs, h => by
    cases h
    exact ⟨rfl, fun c hc => nomatch hc⟩
  | p :: r, cs, h => by
    cases p <;> simp only [cells9] at h <;> try (cases h; done)
    rename_i c
    split at h
    · rename_i hc
      rw [Bool.and_eq_true] at hc
      split at h
      · rename_i ds hd
        cases h
        obtain ⟨e1, e2⟩ := cells9_of hd
        refine ⟨by rw [e1]; rfl, fun d hm => ?_⟩
        rcases List.mem_cons.mp hm with rfl | hm
        · exact ⟨of_decide_eq_true hc.1, of_decide_eq_true hc.2⟩
        · exact e2 d hm
      · cases h
    · cases h
theorem cells9_ints : ∀ {cs : List Int}, (∀ c ∈ cs, 0 ≤ c ∧ c < 997) → cells9 (cs.map .int) = some cs
  | [], _ => rfl
  | c :: r, h => by
    obtain ⟨a, b⟩ := h c List.mem_cons_self
    rw [List.map_cons]
    unfold cells9
    rw [decide_eq_true a, decide_eq_true b, Bool.and_self, if_pos rfl, cells9_ints (fun d hd => h d (List.mem_cons_of_mem _ hd))]
theorem all_tt {α : Type} (xs : List α) : (xs.map fun _ => true).all id = true := by
  rw [List.all_map]
  exact List.all_eq_true.mpr fun _ _ => rfl
theorem is_cells_ok {cs : List Int} (h : ∀ c ∈ cs, 0 ≤ c ∧ c < 997) (hl : cs.length ≤ 1000) (st : Sto) : ∃ g, f_is_cells [.tup (cs.map .int)] st = .ok (.bl true) (st ++ g) := by
  have e0 : fIsi .tuple (.tup (cs.map .int)) st = .ok (.bl true) st := rfl
  have hle := dLc_vals (it := dIt (dVar 0)) (i := 1) (ts := dYes) (el := bo_is_cells_0) (p := fun _ => true) (h := fun _ => .bl true) (own := [1]) (th := noTh) (env := [some (.tup (cs.map .int)), none]) (st := st) (s := st) (xs := cs.map .int) rfl (by rw [List.length_map]; omega) (fun _ _ _ => rfl) (fun q hq _ acc => by
    obtain ⟨c, hc, rfl⟩ := List.mem_map.mp hq
    obtain ⟨a, b⟩ := h c hc
    simp only [bo_is_cells_0, mkF, env0, dSeq, dSet, dIfS, dRet, dRetN, dExp, dBin, dUn, dVar, dC, dCons, dNil, dApp, dMet, dCall, dCallV, b_ok, b_bad, s_ok, f_rt, f_nx, dTB, dTst, dNotT, dOrT, dAndT, dAnd, dOr, dNot, dChain, dIf, dSkip, dNever, Tg.set, e_le, e_lt, e_ge, e_gt, e_add, e_sub, List.map_cons, List.map_nil, List.length_cons, List.length_nil, List.replicate, List.cons_append, List.nil_append, List.append_nil, List.getElem?_cons_zero, List.getElem?_cons_succ, List.set_cons_zero, List.set_cons_succ, Nat.sub_self, Nat.reduceSub, Nat.reduceAdd, wipeE, Nat.beq, if_true, is_cell_ok a b])
  rw [all_true, List.map_map] at hle
  have ha := e_all (lst_end st (cs.map fun _ => PV.bl true) []) (bls_map (fun _ : Int => true) cs)
  rw [all_tt] at ha
  refine ⟨[.lst (cs.map fun _ => PV.bl true)], ?_⟩
  have hle2 : dLc (dIt (dVar 0)) (.nm 1) (dYes) (bo_is_cells_0) [1] noTh [some (.tup (cs.map .int)), none] st = .ok (.ref st.length) (st ++ [.lst (cs.map fun _ => PV.bl true)]) := hle
  simp only [f_is_cells, m_is_cells, d_is_cells, mkF, env0, dSeq, dSet, dIfS, dRet, dRetN, dExp, dBin, dUn, dVar, dC, dCons, dNil, dApp, dMet, dCall, dCallV, b_ok, b_bad, s_ok, f_rt, f_nx, dTB, dTst, dNotT, dOrT, dAndT, dAnd, dOr, dNot, dChain, dIf, dSkip, dNever, Tg.set, e_le, e_lt, e_ge, e_gt, e_add, e_sub, List.map_cons, List.map_nil, List.length_cons, List.length_nil, List.replicate, List.cons_append, List.nil_append, List.append_nil, List.getElem?_cons_zero, List.getElem?_cons_succ, List.set_cons_zero, List.set_cons_succ, Nat.sub_self, Nat.reduceSub, Nat.reduceAdd, wipeE, e0, hle2, ha]
theorem are_cells_ok {cs : List Int} (h : ∀ c ∈ cs, 0 ≤ c ∧ c < 997) (hl : cs.length = 40) (st : Sto) : ∃ g, f_are_cells_in [.tup (cs.map .int), .int 40, .int 40] st = .ok (.bl true) (st ++ g) := by
  have e0 : fIsi .tuple (.tup (cs.map .int)) st = .ok (.bl true) st := rfl
  have e1 : fLen [.tup (cs.map .int)] st = .ok (.int 40) st := by
    show Res.ok (PV.int ((cs.map PV.int).length : Nat)) st = _
    rw [List.length_map, hl]
    rfl
  have hle := dLc_vals (it := dIt (dVar 0)) (i := 3) (ts := dYes) (el := bo_are_cells_in_0) (p := fun _ => true) (h := fun _ => .bl true) (own := [3]) (th := noTh) (env := [some (.tup (cs.map .int)), some (.int 40), some (.int 40), none]) (st := st) (s := st) (xs := cs.map .int) rfl (by rw [List.length_map]; omega) (fun _ _ _ => rfl) (fun q hq _ acc => by
    obtain ⟨c, hc, rfl⟩ := List.mem_map.mp hq
    obtain ⟨a, b⟩ := h c hc
    simp only [bo_are_cells_in_0, mkF, env0, dSeq, dSet, dIfS, dRet, dRetN, dExp, dBin, dUn, dVar, dC, dCons, dNil, dApp, dMet, dCall, dCallV, b_ok, b_bad, s_ok, f_rt, f_nx, dTB, dTst, dNotT, dOrT, dAndT, dAnd, dOr, dNot, dChain, dIf, dSkip, dNever, Tg.set, e_le, e_lt, e_ge, e_gt, e_add, e_sub, List.map_cons, List.map_nil, List.length_cons, List.length_nil, List.replicate, List.cons_append, List.nil_append, List.append_nil, List.getElem?_cons_zero, List.getElem?_cons_succ, List.set_cons_zero, List.set_cons_succ, Nat.sub_self, Nat.reduceSub, Nat.reduceAdd, wipeE, Nat.beq, if_true, is_cell_ok a b])
  rw [all_true, List.map_map] at hle
  have ha := e_all (lst_end st (cs.map fun _ => PV.bl true) []) (bls_map (fun _ : Int => true) cs)
  rw [all_tt] at ha
  refine ⟨[.lst (cs.map fun _ => PV.bl true)], ?_⟩
  have hle2 : dLc (dIt (dVar 0)) (.nm 3) (dYes) (bo_are_cells_in_0) [3] noTh [some (.tup (cs.map .int)), some (.int 40), some (.int 40), none] st = .ok (.ref st.length) (st ++ [.lst (cs.map fun _ => PV.bl true)]) := hle
  have c40 : (40 : Int) ≤ 40 := by decide
  simp only [f_are_cells_in, m_are_cells_in, d_are_cells_in, mkF, env0, dSeq, dSet, dIfS, dRet, dRetN, dExp, dBin, dUn, dVar, dC, dCons, dNil, dApp, dMet, dCall, dCallV, b_ok, b_bad, s_ok, f_rt, f_nx, dTB, dTst, dNotT, dOrT, dAndT, dAnd, dOr, dNot, dChain, dIf, dSkip, dNever, Tg.set, e_le, e_lt, e_ge, e_gt, e_add, e_sub, List.map_cons, List.map_nil, List.length_cons, List.length_nil, List.replicate, List.cons_append, List.nil_append, List.append_nil, List.getElem?_cons_zero, List.getElem?_cons_succ, List.set_cons_zero, List.set_cons_succ, Nat.sub_self, Nat.reduceSub, Nat.reduceAdd, wipeE, e0, e1, pTru, Bool.not_true, c40, decide_true, hle2, ha]
theorem text_in_ok {cs : List Int} (h : ∀ c ∈ cs, 0 ≤ c ∧ c < 1000) (hl : cs.length ≤ 1000) (st : Sto) : ∃ g, f_text_in [.tup (cs.map .int)] st = .ok (.str (flat cs)) (st ++ g) := by
  have hle := dLc_vals (it := dIt (dVar 0)) (i := 1) (ts := dYes) (el := bo_text_in_0) (p := fun _ => true) (h := fun q => match q with
    | .int c => .str (dg c.toNat)
    | _ => .non) (own := [1]) (th := noTh) (env := [some (.tup (cs.map .int)), none]) (st := st) (s := st) (xs := cs.map .int) rfl (by rw [List.length_map]; omega) (fun _ _ _ => rfl) (fun q hq _ acc => by
    obtain ⟨c, hc, rfl⟩ := List.mem_map.mp hq
    obtain ⟨c1, c2⟩ := h c hc
    have e : ∀ st, fFmt (.int c) st = .ok (.str (dg c.toNat)) st := fun st => by
      unfold fFmt
      dsimp only
      rw [decide_eq_true c1, decide_eq_true c2]
      rfl
    simp only [bo_text_in_0, mkF, env0, dSeq, dSet, dIfS, dRet, dRetN, dExp, dBin, dUn, dVar, dC, dCons, dNil, dApp, dMet, dCall, dCallV, b_ok, b_bad, s_ok, f_rt, f_nx, dTB, dTst, dNotT, dOrT, dAndT, dAnd, dOr, dNot, dChain, dIf, dSkip, dNever, Tg.set, e_le, e_lt, e_ge, e_gt, e_add, e_sub, List.map_cons, List.map_nil, List.length_cons, List.length_nil, List.replicate, List.cons_append, List.nil_append, List.append_nil, List.getElem?_cons_zero, List.getElem?_cons_succ, List.set_cons_zero, List.set_cons_succ, Nat.sub_self, Nat.reduceSub, Nat.reduceAdd, wipeE, e])
  rw [all_true, List.map_map] at hle
  have hle2 : dLc (dIt (dVar 0)) (.nm 1) (dYes) (bo_text_in_0) [1] noTh [some (.tup (cs.map .int)), none] st = .ok (.ref st.length) (st ++ [.lst ((cs.map fun c : Int => dg c.toNat).map .str)]) := by
    rw [hle, List.map_map]
    rfl
  have fl := flat_len cs
  have hj := e_join0 (lst_end st ((cs.map fun c : Int => dg c.toNat).map .str) []) (Nat.ble_eq_true_of_le (by omega))
  refine ⟨[.lst ((cs.map fun c : Int => dg c.toNat).map .str)], ?_⟩
  simp only [f_text_in, m_text_in, d_text_in, mkF, env0, dRet, dC, dMet, dCons, dNil, b_ok, s_ok, f_rt, isStr, if_true, List.map_cons, List.map_nil, List.length_cons, List.length_nil, Nat.sub_self, Nat.reduceSub, Nat.reduceAdd, List.replicate, List.cons_append, List.nil_append, List.append_nil, hle2, hj]
  rfl
theorem r_cells_text : Ref s_cells_text m_cells_text := Ref.of fun ps st hp hs => by
  unfold s_cells_text
  split
  · rename_i xs
    split
    · rename_i cs hc
      split
      · rename_i hl
        have hl2 := Nat.le_of_ble_eq_true hl
        obtain ⟨e1, e2⟩ := cells9_of hc
        subst e1
        obtain ⟨g1, a1⟩ := is_cells_ok e2 hl2 st
        obtain ⟨g2, a2⟩ := text_in_ok (fun c hc => by have := e2 c hc; omega) hl2 (st ++ g1)
        have e3 : ∀ s, fLen [.tup (cs.map .int)] s = .ok (.int cs.length) s := fun s => by
          show Res.ok (PV.int ((cs.map PV.int).length : Nat)) s = _
          rw [List.length_map]
        have n3 : ¬ ((cs.length : Int) > 20000) := by omega
        refine LeR.plain (g := g1 ++ g2) ?_ rfl hs
        rw [← List.append_assoc]
        simp only [m_cells_text, d_cells_text, mkF, env0, dSeq, dSet, dIfS, dRet, dRetN, dExp, dBin, dUn, dVar, dC, dCons, dNil, dApp, dMet, dCall, dCallV, b_ok, b_bad, s_ok, f_rt, f_nx, dTB, dTst, dNotT, dOrT, dAndT, dAnd, dOr, dNot, dChain, dIf, dSkip, dNever, Tg.set, e_le, e_lt, e_ge, e_gt, e_add, e_sub, List.map_cons, List.map_nil, List.length_cons, List.length_nil, List.replicate, List.cons_append, List.nil_append, List.append_nil, List.getElem?_cons_zero, List.getElem?_cons_succ, List.set_cons_zero, List.set_cons_succ, Nat.sub_self, Nat.reduceSub, Nat.reduceAdd, wipeE, Nat.beq, if_true, a1, pTru, Bool.not_true, e3, n3, decide_false, a2]
      · exact trivial
    · exact trivial
  · exact trivial
theorem r_window_text : Ref s_window_text m_window_text := Ref.of fun ps st hp hs => by
  unfold s_window_text
  split
  · rename_i xs
    split
    · rename_i cs hc
      split
      · rename_i hl
        have hl2 := beq_iff_eq.mp hl
        obtain ⟨e1, e2⟩ := cells9_of hc
        subst e1
        obtain ⟨g1, a1⟩ := are_cells_ok e2 hl2 st
        obtain ⟨g2, a2⟩ := text_in_ok (fun c hc => by have := e2 c hc; omega) (by omega) (st ++ g1)
        have fl := flat_length cs
        have p1 := e_addS (a := [35]) (b := flat cs) ((st ++ g1) ++ g2) (Nat.ble_eq_true_of_le (by rw [fl, List.length_singleton]; omega))
        have p2 := e_addS (a := [35] ++ flat cs) (b := [59]) ((st ++ g1) ++ g2) (Nat.ble_eq_true_of_le (by rw [List.length_append, fl, List.length_singleton, List.length_singleton]; omega))
        refine LeR.plain (g := g1 ++ g2) ?_ rfl hs
        rw [← List.append_assoc]
        simp only [m_window_text, d_window_text, mkF, env0, dSeq, dIfS, dNotT, dTst, dCall, dCons, dNil, dC, dVar, dRet, dBin, dSkip, b_ok, s_ok, f_rt, List.map_cons, List.map_nil, List.length_cons, List.length_nil, Nat.sub_self, Nat.reduceSub, Nat.reduceAdd, List.replicate, List.append_nil, List.cons_append, List.nil_append, List.getElem?_cons_zero, Nat.beq, if_true, a1, pTru, Bool.not_true, a2]
        rw [p1]
        dsimp only [Res.bind]
        rw [p2]
        rfl
      · exact trivial
    · exact trivial
  · exact trivial
end K09
end
section
set_option maxRecDepth 100000
set_option maxHeartbeats 4000000
namespace K09
open PySem PySem.Spec PyProof.Rows L2 Mi
theorem at_m1 {α : Type} {xs : List α} {v : α} (h : xs[xs.length - 1]? = some v) : atI xs (-1) = some v := by
  have hp := (List.getElem?_eq_some_iff.mp h).1
  unfold atI ixN
  rw [if_neg (by decide), if_pos (by omega), show ((-1 : Int) + (xs.length : Int)).toNat = xs.length - 1 by omega]
  exact h
theorem law_is_window_ok {x : List Nat} (h : okT x = true) (st : Sto) : m__law_is_window [.str x] st = .ok (.bl (winB x)) st := by
  obtain ⟨h1, h2, hz⟩ := okT_of h
  have e0 : fIsi .str (.str x) st = .ok (.bl true) st := rfl
  have ne_int : ∀ (i j : Int) st, pNe (.int i) (.int j) st = .ok (.bl (!decide (i = j))) st := fun i j st => rfl
  by_cases hl : x.length = 122
  · have hl2 : (x.length : Int) = 122 := by omega
    have ga : x[0]? = some x[0] := List.getElem?_eq_getElem (by omega)
    have gb : x[0 + 121]? = some x[0 + 121] := List.getElem?_eq_getElem (by omega)
    generalize x[0] = a at ga
    generalize x[0 + 121] = b at gb
    have hv := winV_told ga gb
    have eb : winB x = (winV x 0).isSome := by
      unfold winB
      rw [decide_eq_true hl]
      rfl
    have i0 : ∀ s, pIx (.str x) (.int 0) s = .ok (.str [a]) s := fun s => e_ixS hz (at_nat (p := 0) ga)
    have i1 : ∀ s, pIx (.str x) (.int (-1)) s = .ok (.str [b]) s := fun s => e_ixS hz (at_m1 (by rw [hl]; exact gb))
    have n1 : ∀ s, pNeg (.int 1) s = .ok (.int (-1)) s := fun s => rfl
    have ei := fun s => e_inner (x := x) (by omega) hz s
    rw [show x.length - 2 = 120 by omega] at ei
    have ht := fun s => law_told_f (okT_cut h 1 120) s
    rw [eb, hv]
    by_cases ka : a = 35
    · by_cases kb : b = 59
      · rw [if_pos ⟨ka, kb⟩]
        simp only [m__law_is_window, d__law_is_window, mkF, env0, dSeq, dSet, dIfS, dRet, dRetN, dExp, dBin, dUn, dVar, dC, dCons, dNil, dApp, dMet, dCall, dCallV, b_ok, b_bad, s_ok, f_rt, f_nx, dTB, dTst, dNotT, dOrT, dAndT, dAnd, dOr, dNot, dChain, dIf, dSkip, dNever, Tg.set, e_le, e_lt, e_ge, e_gt, e_add, e_sub, List.map_cons, List.map_nil, List.length_cons, List.length_nil, List.replicate, List.cons_append, List.nil_append, List.append_nil, List.getElem?_cons_zero, List.getElem?_cons_succ, List.set_cons_zero, List.set_cons_succ, Nat.sub_self, Nat.reduceSub, Nat.reduceAdd, wipeE, e0, pTru, Bool.not_true, e_len _ hz, ne_int, decide_eq_true hl2, i0, i1, n1, ne_str1, decide_eq_true ka, decide_eq_true kb, dSl, dPt, ei, Nat.beq, if_true, ht]
        cases told ((x.drop 1).take 120) <;> rfl
      · rw [if_neg (fun z => kb z.2)]
        simp only [m__law_is_window, d__law_is_window, mkF, env0, dSeq, dSet, dIfS, dRet, dRetN, dExp, dBin, dUn, dVar, dC, dCons, dNil, dApp, dMet, dCall, dCallV, b_ok, b_bad, s_ok, f_rt, f_nx, dTB, dTst, dNotT, dOrT, dAndT, dAnd, dOr, dNot, dChain, dIf, dSkip, dNever, Tg.set, e_le, e_lt, e_ge, e_gt, e_add, e_sub, List.map_cons, List.map_nil, List.length_cons, List.length_nil, List.replicate, List.cons_append, List.nil_append, List.append_nil, List.getElem?_cons_zero, List.getElem?_cons_succ, List.set_cons_zero, List.set_cons_succ, Nat.sub_self, Nat.reduceSub, Nat.reduceAdd, wipeE, e0, pTru, Bool.not_true, e_len _ hz, ne_int, decide_eq_true hl2, i0, i1, n1, ne_str1, decide_eq_true ka, decide_eq_false kb, Bool.not_false]
        rfl
    · rw [if_neg (fun z => ka z.1)]
      simp only [m__law_is_window, d__law_is_window, mkF, env0, dSeq, dSet, dIfS, dRet, dRetN, dExp, dBin, dUn, dVar, dC, dCons, dNil, dApp, dMet, dCall, dCallV, b_ok, b_bad, s_ok, f_rt, f_nx, dTB, dTst, dNotT, dOrT, dAndT, dAnd, dOr, dNot, dChain, dIf, dSkip, dNever, Tg.set, e_le, e_lt, e_ge, e_gt, e_add, e_sub, List.map_cons, List.map_nil, List.length_cons, List.length_nil, List.replicate, List.cons_append, List.nil_append, List.append_nil, List.getElem?_cons_zero, List.getElem?_cons_succ, List.set_cons_zero, List.set_cons_succ, Nat.sub_self, Nat.reduceSub, Nat.reduceAdd, wipeE, e0, pTru, Bool.not_true, e_len _ hz, ne_int, decide_eq_true hl2, i0, ne_str1, decide_eq_false ka, Bool.not_false]
      rfl
  · have hl2 : ¬ ((x.length : Int) = 122) := by omega
    rw [winV_short hl]
    simp only [m__law_is_window, d__law_is_window, mkF, env0, dSeq, dSet, dIfS, dRet, dRetN, dExp, dBin, dUn, dVar, dC, dCons, dNil, dApp, dMet, dCall, dCallV, b_ok, b_bad, s_ok, f_rt, f_nx, dTB, dTst, dNotT, dOrT, dAndT, dAnd, dOr, dNot, dChain, dIf, dSkip, dNever, Tg.set, e_le, e_lt, e_ge, e_gt, e_add, e_sub, List.map_cons, List.map_nil, List.length_cons, List.length_nil, List.replicate, List.cons_append, List.nil_append, List.append_nil, List.getElem?_cons_zero, List.getElem?_cons_succ, List.set_cons_zero, List.set_cons_succ, Nat.sub_self, Nat.reduceSub, Nat.reduceAdd, wipeE, e0, pTru, Bool.not_true, e_len _ hz, ne_int, decide_eq_false hl2, Bool.not_false]
theorem r_law_is_window : Ref s_law_is_window m__law_is_window := Ref.of fun ps st hp hs => by
  unfold s_law_is_window
  split
  · rename_i x
    split
    · rename_i h
      exact LeR.plain (g := []) (by rw [law_is_window_ok h, List.append_nil]) rfl hs
    · exact trivial
  · exact trivial
/-! ### texts near a text -/
def Tx (m : Nat) (t : List Nat) : Prop := t.all sgB = true ∧ t.length ≤ m
theorem Tx.app {a b : Nat} {s t : List Nat} (h : Tx a s) (k : Tx b t) : Tx (a + b) (s ++ t) := ⟨by rw [List.all_append, h.1, k.1]; rfl, by rw [List.length_append]; have := h.2; have := k.2; omega⟩
theorem Tx.take {a : Nat} {s : List Nat} (h : Tx a s) (n : Nat) : Tx a (s.take n) := ⟨all_take h.1 n, by rw [List.length_take]; have := h.2; omega⟩
theorem Tx.drop {a : Nat} {s : List Nat} (h : Tx a s) (n : Nat) : Tx a (s.drop n) := ⟨all_drop h.1 n, by rw [List.length_drop]; have := h.2; omega⟩
theorem Tx.rev {a : Nat} {s : List Nat} (h : Tx a s) : Tx a s.reverse := ⟨by rw [List.all_reverse]; exact h.1, by rw [List.length_reverse]; exact h.2⟩
theorem Tx.mono {a b : Nat} {s : List Nat} (h : Tx a s) (hab : a ≤ b) : Tx b s := ⟨h.1, Nat.le_trans h.2 hab⟩
def near1 (x : List Nat) (i : Nat) : List (List Nat) := [x, x ++ [48], x.take (x.length - 1), x.drop 1, x.reverse, [57, 57, 55] ++ x, x.take i ++ [57, 57, 55] ++ x.drop i]
def near2 (x : List Nat) (i : Nat) : List (List Nat) := [x.take i ++ [32] ++ x.drop i, x.take i ++ [45] ++ x.drop (i + 1), x.take i ++ [48, 48, 48] ++ x.drop i]
def near3 (x : List Nat) (i : Nat) : List (List Nat) := [x.take i ++ [35] ++ x.drop (i + 1), x.take i ++ [57] ++ x.drop (i + 1), [32] ++ x.drop 1, [43, 49, 50] ++ x]
theorem near_tx {x : List Nat} {i m : Nat} (h : Tx m x) : ∀ t ∈ near1 x i ++ near2 x i ++ near3 x i, Tx (2 * m + 3) t := by
  have l1 : ∀ c, sgB c = true → Tx 1 [c] := fun c hc => ⟨by rw [List.all_cons, hc]; rfl, Nat.le_refl _⟩
  have l997 : Tx 3 [57, 57, 55] := ⟨rfl, Nat.le_refl _⟩
  have l000 : Tx 3 [48, 48, 48] := ⟨rfl, Nat.le_refl _⟩
  have l12 : Tx 3 [43, 49, 50] := ⟨rfl, Nat.le_refl _⟩
  intro t ht
  simp only [near1, near2, near3, List.cons_append, List.nil_append, List.mem_cons, List.not_mem_nil, or_false] at ht
  rcases ht with rfl | rfl | rfl | rfl | rfl | rfl | rfl | rfl | rfl | rfl | rfl | rfl | rfl | rfl
  · exact h.mono (by omega)
  · exact (h.app (l1 48 rfl)).mono (by omega)
  · exact (h.take _).mono (by omega)
  · exact (h.drop _).mono (by omega)
  · exact h.rev.mono (by omega)
  · exact (l997.app h).mono (by omega)
  · exact (((h.take i).app l997).app (h.drop i)).mono (by omega)
  · exact (((h.take i).app (l1 32 rfl)).app (h.drop i)).mono (by omega)
  · exact (((h.take i).app (l1 45 rfl)).app (h.drop (i + 1))).mono (by omega)
  · exact (((h.take i).app l000).app (h.drop i)).mono (by omega)
  · exact (((h.take i).app (l1 35 rfl)).app (h.drop (i + 1))).mono (by omega)
  · exact (((h.take i).app (l1 57 rfl)).app (h.drop (i + 1))).mono (by omega)
  · exact ((l1 32 rfl).app (h.drop 1)).mono (by omega)
  · exact (l12.app h).mono (by omega)
theorem e_but {x : List Nat} (hz : szOk x.length = true) (st : Sto) : fSl (.str x) none (some (-1)) st = .ok (.str (x.take (x.length - 1))) st := by
  by_cases h : x = []
  · subst h
    rfl
  · exact e_cutBut h hz st
theorem e_rev {x : List Nat} (hz : szOk x.length = true) (st : Sto) : fRev (.str x) st = .ok (.str x.reverse) st := by
  unfold fRev
  dsimp only
  rw [if_pos hz]
theorem near_ok {w n m : Nat} {st : Sto} {x : List Nat} (hw : Well w n st) (hn : n ≤ 80000) (hx : Tx m x) (hm : m ≤ 5000) : ∃ (k : Nat) (ts : List (List Nat)) (st' : Sto), f__law_near [.ref w, .str x] st = .ok (.ref k) st' ∧ st'[k]? = some (.lst (ts.map .str)) ∧ (∀ t ∈ ts, Tx (2 * m + 3) t) ∧ ts.length = 14 ∧ Well w (n + 1) st' ∧ Kp [w] st st' := by
  have hl := hx.2
  have hz : szOk x.length = true := Nat.ble_eq_true_of_le (by omega)
  obtain ⟨r, s1, e1, r0, r1, w1, k1⟩ := pluck_ok (m := (x.length : Int) + 1) hw (by omega) (by omega) (by omega)
  obtain ⟨i, rfl⟩ : ∃ i : Nat, r = i := ⟨r.toNat, by omega⟩
  have sz : ∀ {a b : List Nat}, a.length + b.length ≤ 20000 → ∀ s, pAdd (.str a) (.str b) s = .ok (.str (a ++ b)) s := fun {a b} h s => e_addS s (Nat.ble_eq_true_of_le (by omega))
  have lt : (x.take i).length ≤ 5000 := by rw [List.length_take]; omega
  have ld : ∀ j, (x.drop j).length ≤ 5000 := fun j => by rw [List.length_drop]; omega
  have a1 := sz (a := x) (b := [48]) (by rw [List.length_singleton]; omega)
  have a2 := sz (a := [57, 57, 55]) (b := x) (by show 3 + _ ≤ _; omega)
  have a3 := sz (a := x.take i) (b := [57, 57, 55]) (by show _ + 3 ≤ _; omega)
  have ap : ∀ (l : List Nat), l.length ≤ 3 → ∀ j, ∀ s, pAdd (.str (x.take i ++ l)) (.str (x.drop j)) s = .ok (.str (x.take i ++ l ++ x.drop j)) s := fun l hl j => sz (by have := ld j; rw [List.length_append]; omega)
  have al : ∀ (l : List Nat), l.length ≤ 3 → ∀ s, pAdd (.str (x.take i)) (.str l) s = .ok (.str (x.take i ++ l)) s := fun l hl => sz (by omega)
  have A32 := al [32] (by decide)
  have A45 := al [45] (by decide)
  have A000 := al [48, 48, 48] (by decide)
  have A35 := al [35] (by decide)
  have A57 := al [57] (by decide)
  have B32 := ap [32] (by decide)
  have B45 := ap [45] (by decide)
  have B000 := ap [48, 48, 48] (by decide)
  have B35 := ap [35] (by decide)
  have B57 := ap [57] (by decide)
  have b1 := sz (a := [32]) (b := x.drop 1) (by have := ld 1; rw [List.length_singleton]; omega)
  have b2 := sz (a := [43, 49, 50]) (b := x) (by show 3 + _ ≤ _; omega)
  have c1 := fun s => e_but hz s
  have c2 : ∀ s, fSl (.str x) (some 1) none s = .ok (.str (x.drop 1)) s := fun s => e_cutFr (i := 1) hz s
  have c3 := fun s => e_cutTo (x := x) (j := i) hz s
  have c4 := fun s => e_cutFr (x := x) (i := i) hz s
  have c5 : ∀ s, fSl (.str x) (some ((i : Int) + 1)) none s = .ok (.str (x.drop (i + 1))) s := fun s => e_cutFr (i := i + 1) hz s
  have c6 := fun s => e_rev hz s
  have n1 : ∀ s, pNeg (.int 1) s = .ok (.int (-1)) s := fun s => rfl
  have f7 : ∀ (a b c d e f g : PV) (s : Sto), fLst [a, b, c, d, e, f, g] s = .ok (.ref s.length) (s ++ [.lst [a, b, c, d, e, f, g]]) := fun _ _ _ _ _ _ _ _ => rfl
  have f3 : ∀ (a b c : PV) (s : Sto), fLst [a, b, c] s = .ok (.ref s.length) (s ++ [.lst [a, b, c]]) := fun _ _ _ _ => rfl
  have f4 : ∀ (a b c d : PV) (s : Sto), fLst [a, b, c, d] s = .ok (.ref s.length) (s ++ [.lst [a, b, c, d]]) := fun _ _ _ _ _ => rfl
  have q0 : q_d__law_near_0 noTh (env0 4 [.ref w, .str x]) st = .nx [some (.ref w), some (.str x), some (.int (i : Int)), none] s1 := by
    simp only [q_d__law_near_0, mkF, env0, dSeq, dSet, dIfS, dRet, dRetN, dExp, dBin, dUn, dVar, dC, dCons, dNil, dApp, dMet, dCall, dCallV, b_ok, b_bad, s_ok, f_rt, f_nx, dTB, dTst, dNotT, dOrT, dAndT, dAnd, dOr, dNot, dChain, dIf, dSkip, dNever, Tg.set, e_le, e_lt, e_ge, e_gt, e_add, e_sub, List.map_cons, List.map_nil, List.length_cons, List.length_nil, List.replicate, List.cons_append, List.nil_append, List.append_nil, List.getElem?_cons_zero, List.getElem?_cons_succ, List.set_cons_zero, List.set_cons_succ, Nat.sub_self, Nat.reduceSub, Nat.reduceAdd, wipeE, e_len _ hz, Nat.beq, if_true, e1]
  have q1 : q_d__law_near_1 noTh [some (.ref w), some (.str x), some (.int (i : Int)), none] s1 = .nx [some (.ref w), some (.str x), some (.int (i : Int)), some (.ref s1.length)] (s1 ++ [.lst ((near1 x i).map .str)]) := by
    simp only [q_d__law_near_1, dSl, dPt, dNoP, dSet, dApp, dCons, dNil, dBin, dUn, dVar, dC, List.getElem?_cons_succ, List.getElem?_cons_zero, b_ok, s_ok, a1, c1, c2, c3, c4, c6, n1, a2, al, ap, f7, List.length_cons, List.length_nil, Nat.reduceAdd, Nat.le_refl, Tg.set, List.set_cons_succ, List.set_cons_zero]
    rfl
  have k2 := get_end s1 (SO.lst ((near1 x i).map .str)) []
  have p2 := add_new (L := (near2 x i).map .str) k2 (by rw [List.length_map, List.length_map]; show 7 + 3 ≤ _; omega)
  generalize hs2 : s1 ++ [SO.lst ((near1 x i).map .str)] = s2 at *
  have q2 : q_d__law_near_2 noTh [some (.ref w), some (.str x), some (.int (i : Int)), some (.ref s1.length)] s2 = .nx [some (.ref w), some (.str x), some (.int (i : Int)), some (.ref (s2 ++ [SO.lst ((near2 x i).map .str)]).length)] ((s2 ++ [.lst ((near2 x i).map .str)]) ++ [.lst ((near1 x i).map .str ++ (near2 x i).map .str)]) := by
    have f3' : ∀ s, fLst [.str (x.take i ++ [32] ++ x.drop i), .str (x.take i ++ [45] ++ x.drop (i + 1)), .str (x.take i ++ [48, 48, 48] ++ x.drop i)] s = .ok (.ref s.length) (s ++ [.lst ((near2 x i).map .str)]) := fun s => rfl
    simp only [q_d__law_near_2, dSl, dPt, dNoP, dSet, dApp, dCons, dNil, dBin, dUn, dVar, dC, List.getElem?_cons_succ, List.getElem?_cons_zero, b_ok, s_ok, e_add, c3, c4, c5, A32, A45, A000, B32, B45, B000, f3', List.length_cons, List.length_nil, Nat.reduceAdd, p2, Tg.set, List.set_cons_succ, List.set_cons_zero]
  have k3 := get_end (s2 ++ [SO.lst ((near2 x i).map .str)]) (SO.lst ((near1 x i).map .str ++ (near2 x i).map .str)) []
  have p3 := add_new (L := (near3 x i).map .str) k3 (by rw [List.length_append, List.length_map, List.length_map, List.length_map]; show 7 + 3 + 4 ≤ _; omega)
  have kp : Kp [w] s2 ((s2 ++ [SO.lst ((near2 x i).map .str)]) ++ [SO.lst ((near1 x i).map .str ++ (near2 x i).map .str)]) := (Kp.app _ _ _).trans (Kp.app _ _ _)
  have w3 : Well w (n + 1) ((s2 ++ [SO.lst ((near2 x i).map .str)]) ++ [SO.lst ((near1 x i).map .str ++ (near2 x i).map .str)]) := by
    rw [← hs2]
    exact w1.app.app.app
  generalize (s2 ++ [SO.lst ((near2 x i).map .str)]) ++ [SO.lst ((near1 x i).map .str ++ (near2 x i).map .str)] = s3 at *
  generalize (s2 ++ [SO.lst ((near2 x i).map .str)]).length = kk at *
  have q3 : t_d__law_near_3 noTh [some (.ref w), some (.str x), some (.int (i : Int)), some (.ref kk)] s3 = .rt (.ref (s3 ++ [SO.lst ((near3 x i).map .str)]).length) ((s3 ++ [.lst ((near3 x i).map .str)]) ++ [.lst ((near1 x i).map .str ++ (near2 x i).map .str ++ (near3 x i).map .str)]) := by
    have f4' : ∀ s, fLst [.str (x.take i ++ [35] ++ x.drop (i + 1)), .str (x.take i ++ [57] ++ x.drop (i + 1)), .str ([32] ++ x.drop 1), .str ([43, 49, 50] ++ x)] s = .ok (.ref s.length) (s ++ [.lst ((near3 x i).map .str)]) := fun s => rfl
    simp only [t_d__law_near_3, dSl, dPt, dNoP, dRet, dApp, dCons, dNil, dBin, dUn, dVar, dC, List.getElem?_cons_succ, List.getElem?_cons_zero, b_ok, s_ok, e_add, c2, c3, c4, c5, b1, b2, A35, A57, B35, B57, f4', List.length_cons, List.length_nil, Nat.reduceAdd, p3]
  refine ⟨(s3 ++ [SO.lst ((near3 x i).map .str)]).length, near1 x i ++ near2 x i ++ near3 x i, (s3 ++ [.lst ((near3 x i).map .str)]) ++ [.lst ((near1 x i).map .str ++ (near2 x i).map .str ++ (near3 x i).map .str)], ?_, ?_, near_tx hx, rfl, w3.app.app, ?_⟩
  · show mkF 4 d__law_near _ _ = _
    rw [t_d__law_near]
    unfold mkF t_d__law_near_0 t_d__law_near_1 t_d__law_near_2
    rw [sq q0, sq q1, sq q2, q3]
    rfl
  · rw [get_end, List.map_append, List.map_append]
  · refine (((Kp.same k1).trans ?_).trans kp).trans ((Kp.app _ _ _).trans (Kp.app _ _ _))
    rw [← hs2]
    exact Kp.app _ _ _
end K09
end
section
set_option maxRecDepth 100000
set_option maxHeartbeats 4000000
namespace K09
open PySem PySem.Spec PyProof.Rows L2 Mi
/-! ### values that are no strings -/
def Odd (st : Sto) (v : PV) : Prop := ∃ t, t ≠ Ty.str ∧ ∀ g, tyOf (st ++ g) v = some t
theorem odd_tup (st : Sto) (xs : List PV) : Odd st (.tup xs) := ⟨.tuple, by decide, fun g => rfl⟩
theorem odd_int (st : Sto) (i : Int) : Odd st (.int i) := ⟨.int, by decide, fun g => rfl⟩
theorem odd_non (st : Sto) : Odd st .non := ⟨.non, by decide, fun g => rfl⟩
theorem odd_bl (st : Sto) (b : Bool) : Odd st (.bl b) := ⟨.bool, by decide, fun g => rfl⟩
theorem odd_lst {st : Sto} {k : Nat} {xs : List PV} (h : st[k]? = some (.lst xs)) : Odd st (.ref k) := ⟨.list, by decide, fun g => by unfold tyOf; dsimp only; rw [get_app h]⟩
theorem odd_dct {st : Sto} {k : Nat} {xs : List (Key × PV)} (h : st[k]? = some (.dct xs)) : Odd st (.ref k) := ⟨.dict, by decide, fun g => by unfold tyOf; dsimp only; rw [get_app h]⟩
theorem odd_text {st g : Sto} {v : PV} (h : Odd st v) : f_is_text [v] (st ++ g) = .ok (.bl false) (st ++ g) := by
  obtain ⟨t, h1, h2⟩ := h
  show s_is_text _ _ = _
  unfold s_is_text
  dsimp only
  rw [h2 g]
  cases t <;> first | rfl | exact absurd rfl h1
theorem odd_window {st g : Sto} {v : PV} (h : Odd st v) : f_is_window [v] (st ++ g) = .ok (.bl false) (st ++ g) := by
  obtain ⟨t, h1, h2⟩ := h
  show s_is_window _ _ = _
  unfold s_is_window
  dsimp only
  rw [h2 g]
  cases t <;> first | rfl | exact absurd rfl h1
theorem odds_ok {w n : Nat} {st : Sto} (h : Well w n st) (hn : n ≤ 80000) : ∃ k ys st', f__law_odd_values [.ref w] st = .ok (.ref k) st' ∧ st'[k]? = some (.lst ys) ∧ (∀ v ∈ ys, Odd st' v) ∧ ys.length = 10 ∧ Well w (n + 1) st' := by
  have f1 : ∀ (p : PV) s, fLst [p] s = .ok (.ref s.length) (s ++ [.lst [p]]) := fun p s => rfl
  have f0 : ∀ s, fLst [] s = .ok (.ref s.length) (s ++ [.lst []]) := fun s => rfl
  have f4 : ∀ (a b c d : PV) s, fLst [a, b, c, d] s = .ok (.ref s.length) (s ++ [.lst [a, b, c, d]]) := fun _ _ _ _ _ => rfl
  have f10 : ∀ (a b c d e f g h i j : PV) s, fLst [a, b, c, d, e, f, g, h, i, j] s = .ok (.ref s.length) (s ++ [.lst [a, b, c, d, e, f, g, h, i, j]]) := fun _ _ _ _ _ _ _ _ _ _ _ => rfl
  have t0 : ∀ s, fTup [] s = .ok (.tup []) s := fun s => rfl
  have t1 : ∀ p s, fTup [p] s = .ok (.tup [p]) s := fun p s => rfl
  have pw : ∀ s, pPow (.int 10) (.int 60) s = .ok (.int (10 ^ 60)) s := fun s => by kernel_rfl
  have n1 : ∀ s, pNeg (.int 1) s = .ok (.int (-1)) s := fun s => rfl
  have k1 := get_end st (SO.lst [.str [35, 48, 48, 55, 59]]) []
  have w1 := h.app (g := [SO.lst [.str [35, 48, 48, 55, 59]]])
  generalize hs1 : st ++ [SO.lst [.str [35, 48, 48, 55, 59]]] = s1 at *
  have k2 := get_end s1 (SO.dct []) []
  have k12 := get_app (g := [SO.dct []]) k1
  have w2 := w1.app (g := [SO.dct []])
  generalize hs2 : s1 ++ [SO.dct []] = s2 at *
  have k3 := get_end s2 (SO.lst []) []
  have k13 := get_app (g := [SO.lst []]) k12
  have k23 := get_app (g := [SO.lst []]) k2
  have w3 := w2.app (g := [SO.lst []])
  generalize hs3 : s2 ++ [SO.lst []] = s3 at *
  have k4 := get_end s3 (SO.dct [(.inr (toS [120]), .int 1)]) []
  have k14 := get_app (g := [SO.dct [(.inr (toS [120]), .int 1)]]) k13
  have k24 := get_app (g := [SO.dct [(.inr (toS [120]), .int 1)]]) k23
  have k34 := get_app (g := [SO.dct [(.inr (toS [120]), .int 1)]]) k3
  have w4 := w3.app (g := [SO.dct [(.inr (toS [120]), .int 1)]])
  generalize hs4 : s3 ++ [SO.dct [(.inr (toS [120]), .int 1)]] = s4 at *
  have hlt := h.lt
  have l1 : st.length < s1.length := by rw [← hs1]; simp
  have l2 : s1.length < s2.length := by rw [← hs2]; simp
  have l3 : s2.length < s3.length := by rw [← hs3]; simp
  have l4 : s3.length < s4.length := by rw [← hs4]; simp
  obtain ⟨y, s5, e5, hy, w5, c5⟩ := some_ok (k := s4.length) (xs := [.tup [], .ref s2.length, .ref s3.length, .tup [.int 1, .int 2]]) w4.app (by omega) (get_end s4 _ []) (by omega) (by simp) (by simp)
  have kp : Kp [w] s4 s5 := (Kp.app _ _ _).trans (Kp.same c5)
  have g1 := kp.one k14 (by omega)
  have g2 := kp.one k24 (by omega)
  have g3 := kp.one k34 (by omega)
  have g4 := kp.one k4 (by omega)
  refine ⟨s5.length, [.non, .int 0, .tup [], .tup [.str [35]], .ref st.length, .ref s1.length, .bl true, .int (10 ^ 60), .int (-1), y], s5 ++ [.lst [.non, .int 0, .tup [], .tup [.str [35]], .ref st.length, .ref s1.length, .bl true, .int (10 ^ 60), .int (-1), y]], ?_, get_end _ _ _, fun v hv => ?_, rfl, w5.app⟩
  · simp only [f__law_odd_values, m__law_odd_values, d__law_odd_values, mkF, env0, dRet, dApp, dCons, dNil, dC, dCall, dVar, dBin, dUn, dDict0, dDict1, b_ok, s_ok, f_rt, List.map_cons, List.map_nil, List.length_cons, List.length_nil, Nat.sub_self, Nat.reduceSub, Nat.reduceAdd, List.replicate, List.append_nil, List.getElem?_cons_zero, Nat.beq, if_true, t0, t1, f1, f0, f4, f10, hs1, hs2, hs3, hs4, pw, n1, e_tup2, e5]
  · simp only [List.mem_cons, List.not_mem_nil, or_false] at hv
    rcases hv with rfl | rfl | rfl | rfl | rfl | rfl | rfl | rfl | rfl | rfl
    · exact odd_non _
    · exact odd_int _ _
    · exact odd_tup _ _
    · exact odd_tup _ _
    · exact odd_lst (get_app g1)
    · exact odd_dct (get_app g2)
    · exact odd_bl _ _
    · exact odd_int _ _
    · exact odd_int _ _
    · simp only [List.mem_cons, List.not_mem_nil, or_false] at hy
      rcases hy with rfl | rfl | rfl | rfl
      · exact odd_tup _ _
      · exact odd_lst (get_app g3)
      · exact odd_dct (get_app g4)
      · exact odd_tup _ _
/-! ### what is asked of a text -/
theorem told_cells_f {x : List Nat} (h : okT x = true) (st : Sto) : f_told_cells [.str x] st = .ok (optT (told x)) st := by
  simp only [f_told_cells, m_told_cells, d_told_cells, mkF, env0, dSeq, dSet, dIfS, dRet, dRetN, dExp, dBin, dUn, dVar, dC, dCons, dNil, dApp, dMet, dCall, dCallV, b_ok, b_bad, s_ok, f_rt, f_nx, dTB, dTst, dNotT, dOrT, dAndT, dAnd, dOr, dNot, dChain, dIf, dSkip, dNever, Tg.set, e_le, e_lt, e_ge, e_gt, e_add, e_sub, List.map_cons, List.map_nil, List.length_cons, List.length_nil, List.replicate, List.cons_append, List.nil_append, List.append_nil, List.getElem?_cons_zero, List.getElem?_cons_succ, List.set_cons_zero, List.set_cons_succ, Nat.sub_self, Nat.reduceSub, Nat.reduceAdd, wipeE, Nat.beq, if_true, req_f h, cells_told_f h]
theorem ne_optT (o : Option (List Int)) (st : Sto) : pNe (optT o) (optT o) st = .ok (.bl false) st := by
  cases o with
  | none => rfl
  | some vs =>
    refine ne_tup_same fun x hx => ?_
    obtain ⟨v, _, rfl⟩ := List.mem_map.mp hx
    exact good_int _ _ _
theorem okT_tx {m : Nat} {t : List Nat} (h : Tx m t) (hm : m ≤ 60000) : okT t = true := by
  unfold okT
  rw [h.1, Bool.and_true]
  exact Nat.ble_eq_true_of_le (by have := h.2; omega)
theorem ask_text {t : List Nat} (h : okT t = true) {a b c d e f g h1 i j : Option PV} (s : Sto) : bo__law_right_2 noTh [a, b, c, d, some (.str t), e, f, g, h1, i, j] s = .nx [a, b, c, d, some (.str t), e, f, g, h1, i, j] s := by
  obtain ⟨x1, x2, _⟩ := okT_of h
  have e1 := is_text_f x1
  rw [x2] at e1
  simp only [bo__law_right_2, mkF, env0, dSeq, dSet, dIfS, dRet, dRetN, dExp, dBin, dUn, dVar, dC, dCons, dNil, dApp, dMet, dCall, dCallV, b_ok, b_bad, s_ok, f_rt, f_nx, dTB, dTst, dNotT, dOrT, dAndT, dAnd, dOr, dNot, dChain, dIf, dSkip, dNever, Tg.set, e_le, e_lt, e_ge, e_gt, e_add, e_sub, List.map_cons, List.map_nil, List.length_cons, List.length_nil, List.replicate, List.cons_append, List.nil_append, List.append_nil, List.getElem?_cons_zero, List.getElem?_cons_succ, List.set_cons_zero, List.set_cons_succ, Nat.sub_self, Nat.reduceSub, Nat.reduceAdd, wipeE, Nat.beq, if_true, told_cells_f h, law_told_f h, ne_optT, e1, pTru, Bool.not_true]
theorem win_f {t : List Nat} (h : okT t = true) (s : Sto) : f_is_window [.str t] s = .ok (.bl (winB t)) s := by
  show s_is_window _ _ = _
  unfold s_is_window tyOf
  dsimp only
  rw [if_pos h]
theorem lwin_f {t : List Nat} (h : okT t = true) (s : Sto) : f__law_is_window [.str t] s = .ok (.bl (winB t)) s := by
  show s_law_is_window _ _ = _
  unfold s_law_is_window
  dsimp only
  rw [if_pos h]
theorem wcells_f {t : List Nat} (h : okT t = true) (s : Sto) : f_window_cells [.str t] s = .ok (if t.length = 122 then optT (winV t 0) else .non) s := by
  show s_window_cells _ _ = _
  unfold s_window_cells
  dsimp only
  rw [if_pos h]
theorem ask_window {t : List Nat} (h : okT t = true) {a b c d e f g h1 i j : Option PV} (s : Sto) : ∃ g', bo__law_right_1 noTh [a, b, c, d, some (.str t), e, f, g, h1, i, j] s = .nx [a, b, c, d, some (.str t), e, f, g', h1, i, j] s := by
  obtain ⟨x1, x2, hz⟩ := okT_of h
  have nb : ∀ (p : Bool) s, pNe (.bl p) (.bl p) s = .ok (.bl false) s := fun p s => by cases p <;> rfl
  cases hb : winB t with
  | true =>
    have hb2 := hb
    unfold winB at hb2
    rw [Bool.and_eq_true] at hb2
    have hl := of_decide_eq_true hb2.1
    obtain ⟨cs, hc⟩ := Option.isSome_iff_exists.mp hb2.2
    have ei := fun s => e_inner (x := t) (by omega) hz s
    rw [hl, show 122 - 2 = 120 from rfl] at ei
    have ht : told ((t.drop 1).take 120) = some cs := by
      unfold winV at hc
      split at hc
      · exact hc
      · cases hc
    have n1 : ∀ s, pNeg (.int 1) s = .ok (.int (-1)) s := fun s => rfl
    have hd := fun s => law_told_f (okT_cut h 1 120) s
    rw [ht] at hd
    have hw := fun s => wcells_f h s
    rw [if_pos hl, hc] at hw
    refine ⟨some (optT (some cs)), ?_⟩
    simp only [bo__law_right_1, mkF, env0, dSeq, dSet, dIfS, dRet, dRetN, dExp, dBin, dUn, dVar, dC, dCons, dNil, dApp, dMet, dCall, dCallV, b_ok, b_bad, s_ok, f_rt, f_nx, dTB, dTst, dNotT, dOrT, dAndT, dAnd, dOr, dNot, dChain, dIf, dSkip, dNever, Tg.set, e_le, e_lt, e_ge, e_gt, e_add, e_sub, List.map_cons, List.map_nil, List.length_cons, List.length_nil, List.replicate, List.cons_append, List.nil_append, List.append_nil, List.getElem?_cons_zero, List.getElem?_cons_succ, List.set_cons_zero, List.set_cons_succ, Nat.sub_self, Nat.reduceSub, Nat.reduceAdd, wipeE, Nat.beq, if_true, lwin_f h, win_f h, hb, pTru, dSl, dPt, n1, ei, hd, nb, hw, ne_optT]
  | false =>
    have hw : ∀ s, f_window_cells [.str t] s = .ok .non s := fun s => by
      rw [wcells_f h]
      by_cases hl : t.length = 122
      · rw [if_pos hl]
        unfold winB at hb
        rw [decide_eq_true hl, Bool.true_and] at hb
        cases hv : winV t 0 with
        | none => rfl
        | some c =>
          rw [hv] at hb
          cases hb
      · rw [if_neg hl]
    have nn : ∀ s, pNe .non .non s = .ok (.bl false) s := fun s => rfl
    refine ⟨some .non, ?_⟩
    simp only [bo__law_right_1, mkF, env0, dSeq, dSet, dIfS, dRet, dRetN, dExp, dBin, dUn, dVar, dC, dCons, dNil, dApp, dMet, dCall, dCallV, b_ok, b_bad, s_ok, f_rt, f_nx, dTB, dTst, dNotT, dOrT, dAndT, dAnd, dOr, dNot, dChain, dIf, dSkip, dNever, Tg.set, e_le, e_lt, e_ge, e_gt, e_add, e_sub, List.map_cons, List.map_nil, List.length_cons, List.length_nil, List.replicate, List.cons_append, List.nil_append, List.append_nil, List.getElem?_cons_zero, List.getElem?_cons_succ, List.set_cons_zero, List.set_cons_succ, Nat.sub_self, Nat.reduceSub, Nat.reduceAdd, wipeE, Nat.beq, if_true, lwin_f h, win_f h, hb, pTru, nb, hw, nn]
end K09
end
section
set_option maxRecDepth 100000
set_option maxHeartbeats 4000000
namespace K09
open PySem PySem.Spec PyProof.Rows L2 Mi
theorem mem_nat {r : Int} (h0 : 0 ≤ r) (h1 : r < 90) {y : PV} (h : y ∈ [PV.int 0, .int 1, .int 2, .int 40, .int 41, .int r]) : ∃ n : Nat, y = .int (n : Int) ∧ n < 90 := by
  simp only [List.mem_cons, List.not_mem_nil, or_false] at h
  rcases h with rfl | rfl | rfl | rfl | rfl | rfl
  · exact ⟨0, rfl, by decide⟩
  · exact ⟨1, rfl, by decide⟩
  · exact ⟨2, rfl, by decide⟩
  · exact ⟨40, rfl, by decide⟩
  · exact ⟨41, rfl, by decide⟩
  · exact ⟨r.toNat, by congr 1; omega, by omega⟩
theorem mem_cell {r : Int} (h0 : 0 ≤ r) (h1 : r < 997) {y : PV} (h : y ∈ [PV.int 0, .int 5, .int 99, .int 100, .int 996, .int r]) : ∃ c : Int, y = .int c ∧ 0 ≤ c ∧ c < 997 := by
  simp only [List.mem_cons, List.not_mem_nil, or_false] at h
  rcases h with rfl | rfl | rfl | rfl | rfl | rfl
  · exact ⟨_, rfl, by decide, by decide⟩
  · exact ⟨_, rfl, by decide, by decide⟩
  · exact ⟨_, rfl, by decide, by decide⟩
  · exact ⟨_, rfl, by decide, by decide⟩
  · exact ⟨_, rfl, by decide, by decide⟩
  · exact ⟨_, rfl, h0, h1⟩
theorem f6 (a b c d e f : PV) (s : Sto) : fLst [a, b, c, d, e, f] s = .ok (.ref s.length) (s ++ [.lst [a, b, c, d, e, f]]) := rfl
theorem el_ok {w n : Nat} {st : Sto} {b c d e f g h i j k : Option PV} (hw : Well w n st) (hn : n ≤ 80000) : ∃ v st', bo__law_right_4 noTh [some (.ref w), b, c, d, e, f, g, h, i, j, k] st = .ok (.int v) st' ∧ 0 ≤ v ∧ v < 997 ∧ Well w (n + 2) st' ∧ Kp [w] st st' := by
  obtain ⟨r, s1, e1, r0, r1, w1, c1⟩ := pluck_ok (m := 997) hw (by omega) (by decide) (by decide)
  obtain ⟨y, s2, e2, hy, w2, c2⟩ := some_ok (k := s1.length) (xs := [.int 0, .int 5, .int 99, .int 100, .int 996, .int r]) w1.app (by omega) (get_end s1 _ []) (by have := w1.lt; omega) (by simp) (by simp)
  obtain ⟨v, rfl, v0, v1⟩ := mem_cell r0 r1 hy
  refine ⟨v, s2, ?_, v0, v1, w2, ((Kp.same c1).trans (Kp.app _ _ _)).trans (Kp.same c2)⟩
  simp only [bo__law_right_4, mkF, env0, dSeq, dSet, dIfS, dRet, dRetN, dExp, dBin, dUn, dVar, dC, dCons, dNil, dApp, dMet, dCall, dCallV, b_ok, b_bad, s_ok, f_rt, f_nx, dTB, dTst, dNotT, dOrT, dAndT, dAnd, dOr, dNot, dChain, dIf, dSkip, dNever, Tg.set, e_le, e_lt, e_ge, e_gt, e_add, e_sub, List.map_cons, List.map_nil, List.length_cons, List.length_nil, List.replicate, List.cons_append, List.nil_append, List.append_nil, List.getElem?_cons_zero, List.getElem?_cons_succ, List.set_cons_zero, List.set_cons_succ, Nat.sub_self, Nat.reduceSub, Nat.reduceAdd, wipeE, Nat.beq, if_true, e1, f6, e2]
theorem ints_of : ∀ {ys : List PV}, (∀ y ∈ ys, ∃ c : Int, y = .int c ∧ 0 ≤ c ∧ c < 997) → ∃ cs : List Int, ys = cs.map .int ∧ ∀ c ∈ cs, 0 ≤ c ∧ c < 997
  | [], _ => ⟨[], rfl, fun c hc => nomatch hc⟩
  | y :: r, h => by
    obtain ⟨c, rfl, c0, c1⟩ := h y List.mem_cons_self
    obtain ⟨cs, rfl, hc⟩ := ints_of (fun z hz => h z (List.mem_cons_of_mem _ hz))
    refine ⟨c :: cs, rfl, fun d hd => ?_⟩
    rcases List.mem_cons.mp hd with rfl | hd
    · exact ⟨c0, c1⟩
    · exact hc d hd
theorem lc_three {cs : List Int} (h : ∀ c ∈ cs, 0 ≤ c ∧ c < 997) (hl : cs.length ≤ 1000) {a b d e f g i j k l : Option PV} (st : Sto) : dLc (dIt (dVar 2)) (.nm 9) (dYes) (bo__law_right_3) [9] noTh [a, b, some (.tup (cs.map .int)), d, e, f, g, i, j, k, l] st = .ok (.ref st.length) (st ++ [.lst ((cs.map fun c : Int => dg c.toNat).map .str)]) := by
  have hle := dLc_vals (it := dIt (dVar 2)) (i := 9) (ts := dYes) (el := bo__law_right_3) (p := fun _ => true) (h := fun q => match q with
    | .int c => .str (dg c.toNat)
    | _ => .non) (own := [9]) (th := noTh) (env := [a, b, some (.tup (cs.map .int)), d, e, f, g, i, j, k, l]) (st := st) (s := st) (xs := cs.map .int) rfl (by rw [List.length_map]; omega) (fun _ _ _ => rfl) (fun q hq _ acc => by
    obtain ⟨c, hc, rfl⟩ := List.mem_map.mp hq
    obtain ⟨c1, c2⟩ := h c hc
    have e := fun st => three_ok (c := c.toNat) (by omega) st
    rw [show ((c.toNat : Nat) : Int) = c by omega] at e
    simp only [bo__law_right_3, mkF, env0, dSeq, dSet, dIfS, dRet, dRetN, dExp, dBin, dUn, dVar, dC, dCons, dNil, dApp, dMet, dCall, dCallV, b_ok, b_bad, s_ok, f_rt, f_nx, dTB, dTst, dNotT, dOrT, dAndT, dAnd, dOr, dNot, dChain, dIf, dSkip, dNever, Tg.set, e_le, e_lt, e_ge, e_gt, e_add, e_sub, List.map_cons, List.map_nil, List.length_cons, List.length_nil, List.replicate, List.cons_append, List.nil_append, List.append_nil, List.getElem?_cons_zero, List.getElem?_cons_succ, List.set_cons_zero, List.set_cons_succ, Nat.sub_self, Nat.reduceSub, Nat.reduceAdd, wipeE, Nat.beq, if_true, e])
  rw [all_true, List.map_map] at hle
  rw [hle, List.map_map]
  rfl
theorem ctext_f {cs : List Int} (h : ∀ c ∈ cs, 0 ≤ c ∧ c < 997) (hl : cs.length ≤ 1000) (st : Sto) : f_cells_text [.tup (cs.map .int)] st = .ok (.str (flat cs)) st := by
  show s_cells_text _ st = _
  unfold s_cells_text
  dsimp only
  rw [cells9_ints h]
  dsimp only
  rw [if_pos (Nat.ble_eq_true_of_le hl)]
theorem wtext_f {cs : List Int} (h : ∀ c ∈ cs, 0 ≤ c ∧ c < 997) (hl : cs.length = 40) (st : Sto) : f_window_text [.tup (cs.map .int)] st = .ok (.str (winT cs)) st := by
  show s_window_text _ st = _
  unfold s_window_text
  dsimp only
  rw [cells9_ints h]
  dsimp only
  rw [if_pos (beq_iff_eq.mpr hl)]
theorem ne_strs (x : List Nat) (st : Sto) : pNe (.str x) (.str x) st = .ok (.bl false) st := by
  rw [Mi.ne_str, decide_eq_true rfl]
  rfl
theorem ne_ints (cs : List Int) (st : Sto) : pNe (.tup (cs.map .int)) (.tup (cs.map .int)) st = .ok (.bl false) st := ne_optT (some cs) st
theorem rng_var (f : List PV → Sto → Res ItD) {a : Option PV} {j : Int} {env : Mi.Env} (st : Sto) : dRng f (dCons (dVar 1) (dNil)) noTh (a :: some (.int j) :: env) st = f [.int j] st := by
  simp only [dRng, mkF, env0, dSeq, dSet, dIfS, dRet, dRetN, dExp, dBin, dUn, dVar, dC, dCons, dNil, dApp, dMet, dCall, dCallV, b_ok, b_bad, s_ok, f_rt, f_nx, dTB, dTst, dNotT, dOrT, dAndT, dAnd, dOr, dNot, dChain, dIf, dSkip, dNever, Tg.set, e_le, e_lt, e_ge, e_gt, e_add, e_sub, List.map_cons, List.map_nil, List.length_cons, List.length_nil, List.replicate, List.cons_append, List.nil_append, List.append_nil, List.getElem?_cons_zero, List.getElem?_cons_succ, List.set_cons_zero, List.set_cons_succ, Nat.sub_self, Nat.reduceSub, Nat.reduceAdd, wipeE]
/-- the first statements: how many cells, the cells, their digits -/
theorem pick_ok {w n : Nat} {st : Sto} (h : Well w n st) (hn : n ≤ 10000) : ∃ (many : Nat) (cs : List Int) (s2 s3 s4 : Sto), many < 90 ∧ cs.length = many ∧ (∀ c ∈ cs, 0 ≤ c ∧ c < 997) ∧
    q_d__law_right_0 noTh (env0 11 [.ref w]) st = .nx [some (.ref w), some (.int (many : Int)), none, none, none, none, none, none, none, none, none] s2 ∧
    q_d__law_right_1 noTh [some (.ref w), some (.int (many : Int)), none, none, none, none, none, none, none, none, none] s2 = .nx [some (.ref w), some (.int (many : Int)), some (.tup (cs.map .int)), none, none, none, none, none, none, none, none] s3 ∧
    q_d__law_right_2 noTh [some (.ref w), some (.int (many : Int)), some (.tup (cs.map .int)), none, none, none, none, none, none, none, none] s3 = .nx [some (.ref w), some (.int (many : Int)), some (.tup (cs.map .int)), some (.str (flat cs)), none, none, none, none, none, none, none] s4 ∧ Well w (n + 190) s4 := by
  -- how many cells
  obtain ⟨r, s1, e1, r0, r1, w1, c1⟩ := pluck_ok (m := 90) h (by omega) (by decide) (by decide)
  obtain ⟨y, s2, e2, hy, w2, c2⟩ := some_ok (k := s1.length) (xs := [.int 0, .int 1, .int 2, .int 40, .int 41, .int r]) w1.app (by omega) (get_end s1 _ []) (by have := w1.lt; omega) (by simp) (by simp)
  obtain ⟨many, rfl, hmany⟩ := mem_nat r0 r1 hy
  have q0 : q_d__law_right_0 noTh (env0 11 [.ref w]) st = .nx [some (.ref w), some (.int (many : Int)), none, none, none, none, none, none, none, none, none] s2 := by
    simp only [q_d__law_right_0, mkF, env0, dSeq, dSet, dIfS, dRet, dRetN, dExp, dBin, dUn, dVar, dC, dCons, dNil, dApp, dMet, dCall, dCallV, b_ok, b_bad, s_ok, f_rt, f_nx, dTB, dTst, dNotT, dOrT, dAndT, dAnd, dOr, dNot, dChain, dIf, dSkip, dNever, Tg.set, e_le, e_lt, e_ge, e_gt, e_add, e_sub, List.map_cons, List.map_nil, List.length_cons, List.length_nil, List.replicate, List.cons_append, List.nil_append, List.append_nil, List.getElem?_cons_zero, List.getElem?_cons_succ, List.set_cons_zero, List.set_cons_succ, Nat.sub_self, Nat.reduceSub, Nat.reduceAdd, wipeE, Nat.beq, if_true, e1, f6, e2]
  -- the cells
  have hi : ∀ s, fRng1 [.int (many : Int)] s = .ok (.vals (rngV 0 1 many)) s := fun s => by
    rw [e_rng1 s (okI_small (by omega) (by omega))]
    rfl
  have hw2 := w2.lt
  have hw0 := Well.w0 w2
  obtain ⟨ys, s3, e3, d3, l3, p3, w3⟩ := lcV_inv (B := many) (i := 8) (D := s2.length) (el := bo__law_right_4) (own := [8]) (th := noTh) (env := [some (.ref w), some (.int (many : Int)), none, none, none, none, none, none, none, none, none]) (I := fun j s => Well w (n + 2 + 2 * j) s) (P := fun y => ∃ c : Int, y = .int c ∧ 0 ≤ c ∧ c < 997)
    (fun j s acc a => a.set (by omega) (by omega)) (rngV 0 1 many)
    (fun x hx j s acc hj a hD => by
      obtain ⟨v, s', f1, f2, f3, f4, f5⟩ := el_ok (b := some (.int (many : Int))) (c := none) (d := none) (e := none) (f := none) (g := none) (h := none) (i := some x) (j := none) (k := none) a (by omega)
      exact ⟨.int v, s', f1, ⟨v, rfl, f2, f3⟩, f4.mono (by omega), f5.one hD (by omega)⟩)
    (s2 ++ [.lst []]) [] 0 (by rw [rngV_len]; omega) w2.app (get_end _ _ _) (by rw [rngV_len, List.length_nil]; omega)
  rw [rngV_len] at l3 w3
  obtain ⟨cs, rfl, hcs⟩ := ints_of p3
  rw [List.length_map] at l3
  rw [List.nil_append] at d3
  have ht3 := e_tuple (lst_of d3)
  have q1 : q_d__law_right_1 noTh [some (.ref w), some (.int (many : Int)), none, none, none, none, none, none, none, none, none] s2 = .nx [some (.ref w), some (.int (many : Int)), some (.tup (cs.map .int)), none, none, none, none, none, none, none, none] s3 := by
    have hd : dLc (dRng fRng1 (dCons (dVar 1) (dNil))) (.nm 8) (dYes) (bo__law_right_4) [8] noTh [some (.ref w), some (.int (many : Int)), none, none, none, none, none, none, none, none, none] s2 = .ok (.ref s2.length) s3 := by
      have hit : dRng fRng1 (dCons (dVar 1) (dNil)) noTh [some (.ref w), some (.int (many : Int)), none, none, none, none, none, none, none, none, none] s2 = .ok (.vals (rngV 0 1 many)) s2 := (rng_var fRng1 s2).trans (hi s2)
      unfold dLc
      rw [hit]
      dsimp only [Res.bind]
      rw [show wipeE [some (.ref w), some (.int (many : Int)), none, none, none, none, none, none, none, none, none] [8] = [some (.ref w), some (.int (many : Int)), none, none, none, none, none, none, none, none, none] from rfl, e3]
      rfl
    simp only [q_d__law_right_1, dSet, dApp, dCons, dNil, hd, b_ok, s_ok, ht3, Tg.set, List.set_cons_succ, List.set_cons_zero]
  have hcs' : ∀ c ∈ cs, 0 ≤ c ∧ c < 1000 := fun c hc => by have := hcs c hc; omega
  have fl := flat_length cs
  -- their digits
  have h4 := lc_three (a := some (.ref w)) (b := some (.int (many : Int))) (d := none) (e := none) (f := none) (g := none) (i := none) (j := none) (k := none) (l := none) hcs (by omega) s3
  have hj4 := e_join0 (lst_end s3 ((cs.map fun c : Int => dg c.toNat).map .str) []) (Nat.ble_eq_true_of_le (by rw [flat_len]; omega))
  have w4 := w3.app (g := [.lst ((cs.map fun c : Int => dg c.toNat).map .str)])
  generalize hs4 : s3 ++ [SO.lst ((cs.map fun c : Int => dg c.toNat).map .str)] = s4 at *
  have q2 : q_d__law_right_2 noTh [some (.ref w), some (.int (many : Int)), some (.tup (cs.map .int)), none, none, none, none, none, none, none, none] s3 = .nx [some (.ref w), some (.int (many : Int)), some (.tup (cs.map .int)), some (.str (flat cs)), none, none, none, none, none, none, none] s4 := by
    simp only [q_d__law_right_2, dSet, dMet, dC, isStr, if_true, dCons, dNil, h4, b_ok, s_ok, hj4, Tg.set, List.set_cons_succ, List.set_cons_zero]
    rfl
  exact ⟨many, cs, s2, s3, s4, hmany, by omega, hcs, q0, q1, q2, w4.mono (by omega)⟩
theorem right_ok {w n : Nat} {st : Sto} (h : Well w n st) (hn : n ≤ 10000) : ∃ st', f__law_right [.ref w] st = .ok (.bl true) st' ∧ Well w (n + 300) st' := by
  obtain ⟨many, cs, s2, s3, s4, hmany, l3, hcs, q0, q1, q2, w4⟩ := pick_ok h hn
  have hcs' : ∀ c ∈ cs, 0 ≤ c ∧ c < 1000 := fun c hc => by have := hcs c hc; omega
  have fl := flat_length cs
  have hT : Tx 270 (flat cs) := ⟨flat_sg hcs', by omega⟩
  have hok := okT_tx hT (by decide)
  have q3 : q_d__law_right_3 noTh [some (.ref w), some (.int (many : Int)), some (.tup (cs.map .int)), some (.str (flat cs)), none, none, none, none, none, none, none] s4 = .nx [some (.ref w), some (.int (many : Int)), some (.tup (cs.map .int)), some (.str (flat cs)), none, none, none, none, none, none, none] s4 := by
    have htc := fun s => told_cells_f hok s
    rw [told_flat hcs] at htc
    have htc' : ∀ s, f_told_cells [.str (flat cs)] s = .ok (.tup (cs.map .int)) s := htc
    simp only [q_d__law_right_3, dIfS, dOrT, dTB, dBin, dCall, dCons, dNil, dVar, List.getElem?_cons_succ, List.getElem?_cons_zero, b_ok, s_ok, List.length_cons, List.length_nil, Nat.beq, if_true, ctext_f hcs (show cs.length ≤ 1000 by omega), ne_strs, htc', ne_ints, dSkip]
  -- texts near them
  obtain ⟨k5, ts5, s5, e5, g5, t5, l5, w5, _⟩ := near_ok w4 (by omega) hT (by decide)
  obtain ⟨env6, s6, e6, o6, rfl, w6, g6⟩ := forL_inv (t := .nm 4) (body := bo__law_right_2) (th := noTh) (k := k5) (ys := ts5.map PV.str)
    (I := fun m env s => ∃ o, env = [some (.ref w), some (.int (many : Int)), some (.tup (cs.map .int)), some (.str (flat cs)), o, none, none, none, none, none, none] ∧ Well w (n + 200) s ∧ s[k5]? = some (.lst (ts5.map PV.str)))
    (fun m env s ⟨o, _, _, hg⟩ => lst_of hg)
    (fun x hx m env s ⟨o, he, hw, hg⟩ => by
      subst he
      obtain ⟨t, ht, rfl⟩ := List.mem_map.mp hx
      refine ⟨_, rfl, _, _, ask_text (okT_tx (t5 t ht) (by decide)) s, ⟨_, rfl, hw, hg⟩⟩)
    (ts5.map PV.str) 0 ((ts5.map PV.str).length + 1) 0 [some (.ref w), some (.int (many : Int)), some (.tup (cs.map .int)), some (.str (flat cs)), none, none, none, none, none, none, none] s5 rfl (Nat.lt_succ_self _) ⟨none, rfl, w5.mono (by omega), g5⟩
  have q4 : q_d__law_right_4 noTh [some (.ref w), some (.int (many : Int)), some (.tup (cs.map .int)), some (.str (flat cs)), none, none, none, none, none, none, none] s4 = .nx [some (.ref w), some (.int (many : Int)), some (.tup (cs.map .int)), some (.str (flat cs)), o6, none, none, none, none, none, none] s6 := by
    simp only [q_d__law_right_4, dFor, dIt, dCall, dCons, dNil, dVar, List.getElem?_cons_succ, List.getElem?_cons_zero, b_ok, s_ok, List.length_cons, List.length_nil, Nat.beq, if_true, e5, it_list (lst_of g5)]
    exact e6
  -- forty cells and their window
  obtain ⟨fs, s7, e7, fl7, hf7, w7, _⟩ := cells_ok w6 (by omega)
  have q5 : q_d__law_right_5 noTh [some (.ref w), some (.int (many : Int)), some (.tup (cs.map .int)), some (.str (flat cs)), o6, none, none, none, none, none, none] s6 = .nx [some (.ref w), some (.int (many : Int)), some (.tup (cs.map .int)), some (.str (flat cs)), o6, some (.tup (fs.map .int)), none, none, none, none, none] s7 := by
    simp only [q_d__law_right_5, dSet, dCall, dCons, dNil, dVar, List.getElem?_cons_succ, List.getElem?_cons_zero, b_ok, s_ok, List.length_cons, List.length_nil, Nat.beq, if_true, e7, Tg.set, List.set_cons_succ, List.set_cons_zero]
  have hf' : ∀ c ∈ fs, 0 ≤ c ∧ c < 1000 := fun c hc => by have := hf7 c hc; omega
  have hwf := fun s => window_f hf' (by omega) s
  have wl := winT_len fl7
  have ws := winT_sg hf'
  have hwv := winV_winT hf7 fl7
  have hwt := fun s => wtext_f hf7 fl7 s
  generalize winT fs = W at *
  have hW : Tx 122 W := ⟨ws, by omega⟩
  have okW := okT_tx hW (by decide)
  have q6 : q_d__law_right_6 noTh [some (.ref w), some (.int (many : Int)), some (.tup (cs.map .int)), some (.str (flat cs)), o6, some (.tup (fs.map .int)), none, none, none, none, none] s7 = .nx [some (.ref w), some (.int (many : Int)), some (.tup (cs.map .int)), some (.str (flat cs)), o6, some (.tup (fs.map .int)), some (.str W), none, none, none, none] s7 := by
    simp only [q_d__law_right_6, dSet, dCall, dCons, dNil, dVar, List.getElem?_cons_succ, List.getElem?_cons_zero, b_ok, s_ok, List.length_cons, List.length_nil, Nat.beq, if_true, hwf, Tg.set, List.set_cons_succ, List.set_cons_zero]
  have hwc := fun s => wcells_f okW s
  rw [if_pos wl, hwv] at hwc
  have hwc' : ∀ s, f_window_cells [.str W] s = .ok (.tup (fs.map .int)) s := hwc
  have q7 : q_d__law_right_7 noTh [some (.ref w), some (.int (many : Int)), some (.tup (cs.map .int)), some (.str (flat cs)), o6, some (.tup (fs.map .int)), some (.str W), none, none, none, none] s7 = .nx [some (.ref w), some (.int (many : Int)), some (.tup (cs.map .int)), some (.str (flat cs)), o6, some (.tup (fs.map .int)), some (.str W), none, none, none, none] s7 := by
    simp only [q_d__law_right_7, dIfS, dOrT, dTB, dBin, dCall, dCons, dNil, dVar, List.getElem?_cons_succ, List.getElem?_cons_zero, b_ok, s_ok, List.length_cons, List.length_nil, Nat.beq, if_true, hwt, ne_strs, hwc', ne_ints, dSkip]
  -- texts near it
  obtain ⟨k8, ts8, s8, e8, g8, t8, l8, w8, _⟩ := near_ok w7 (by omega) hW (by decide)
  have zW : szOk W.length = true := (okT_of okW).2.2
  have c121 : ∀ s, fSl (.str W) none (some 121) s = .ok (.str (W.take 121)) s := fun s => e_cutTo (j := 121) zW s
  have c1 : ∀ s, fSl (.str W) (some 1) none s = .ok (.str (W.drop 1)) s := fun s => e_cutFr (i := 1) zW s
  have sz : ∀ {a b : List Nat}, a.length + b.length ≤ 20000 → ∀ s, pAdd (.str a) (.str b) s = .ok (.str (a ++ b)) s := fun {a b} h s => e_addS s (Nat.ble_eq_true_of_le (by omega))
  have a1 := sz (a := W.take 121) (b := [35]) (by rw [List.length_take, List.length_singleton]; omega)
  have a2 := sz (a := [59]) (b := W.drop 1) (by rw [List.length_drop, List.length_singleton]; omega)
  have a3 := sz (a := [35]) (b := flat cs) (by rw [List.length_singleton]; omega)
  have a4 := sz (a := [35] ++ flat cs) (b := [59]) (by rw [List.length_append, List.length_singleton, List.length_singleton]; omega)
  have f3 : ∀ (a b c : PV) (s : Sto), fLst [a, b, c] s = .ok (.ref s.length) (s ++ [.lst [a, b, c]]) := fun _ _ _ _ => rfl
  have p8 := add_new (L := [.str (W.take 121 ++ [35]), .str ([59] ++ W.drop 1), .str ([35] ++ flat cs ++ [59])]) g8 (by rw [List.length_map, l8]; show 14 + 3 ≤ _; omega)
  have ok8 : ∀ x ∈ ts8.map PV.str ++ [.str (W.take 121 ++ [35]), .str ([59] ++ W.drop 1), .str ([35] ++ flat cs ++ [59])], ∃ t, x = .str t ∧ okT t = true := fun x hx => by
    have l35 : Tx 1 [35] := ⟨rfl, Nat.le_refl _⟩
    have l59 : Tx 1 [59] := ⟨rfl, Nat.le_refl _⟩
    rcases List.mem_append.mp hx with hx | hx
    · obtain ⟨t, ht, rfl⟩ := List.mem_map.mp hx
      exact ⟨t, rfl, okT_tx (t8 t ht) (by decide)⟩
    · simp only [List.mem_cons, List.not_mem_nil, or_false] at hx
      rcases hx with rfl | rfl | rfl
      · exact ⟨_, rfl, okT_tx ((hW.take 121).app l35) (by decide)⟩
      · exact ⟨_, rfl, okT_tx (l59.app (hW.drop 1)) (by decide)⟩
      · exact ⟨_, rfl, okT_tx ((l35.app hT).app l59) (by decide)⟩
  have wB := (w8.app (g := [SO.lst [.str (W.take 121 ++ [35]), .str ([59] ++ W.drop 1), .str ([35] ++ flat cs ++ [59])]])).app (g := [SO.lst (ts8.map PV.str ++ [.str (W.take 121 ++ [35]), .str ([59] ++ W.drop 1), .str ([35] ++ flat cs ++ [59])])])
  have gB := get_end (s8 ++ [SO.lst [.str (W.take 121 ++ [35]), .str ([59] ++ W.drop 1), .str ([35] ++ flat cs ++ [59])]]) (SO.lst (ts8.map PV.str ++ [.str (W.take 121 ++ [35]), .str ([59] ++ W.drop 1), .str ([35] ++ flat cs ++ [59])])) []
  generalize hsB : (s8 ++ [SO.lst [.str (W.take 121 ++ [35]), .str ([59] ++ W.drop 1), .str ([35] ++ flat cs ++ [59])]]) ++ [SO.lst (ts8.map PV.str ++ [.str (W.take 121 ++ [35]), .str ([59] ++ W.drop 1), .str ([35] ++ flat cs ++ [59])])] = sB at *
  generalize (s8 ++ [SO.lst [.str (W.take 121 ++ [35]), .str ([59] ++ W.drop 1), .str ([35] ++ flat cs ++ [59])]]).length = kB at *
  generalize hL : ts8.map PV.str ++ [.str (W.take 121 ++ [35]), .str ([59] ++ W.drop 1), .str ([35] ++ flat cs ++ [59])] = L at *
  obtain ⟨env9, s9, e9, o9, d9, rfl, w9, g9⟩ := forL_inv (t := .nm 4) (body := bo__law_right_1) (th := noTh) (k := kB) (ys := L)
    (I := fun m env s => ∃ o d, env = [some (.ref w), some (.int (many : Int)), some (.tup (cs.map .int)), some (.str (flat cs)), o, some (.tup (fs.map .int)), some (.str W), d, none, none, none] ∧ Well w (n + 250) s ∧ s[kB]? = some (.lst L))
    (fun m env s ⟨o, d, _, _, hg⟩ => lst_of hg)
    (fun x hx m env s ⟨o, d, he, hw, hg⟩ => by
      subst he
      obtain ⟨t, rfl, ht⟩ := ok8 x hx
      obtain ⟨g', hg'⟩ := ask_window ht (a := some (.ref w)) (b := some (.int (many : Int))) (c := some (.tup (cs.map .int))) (d := some (.str (flat cs))) (e := some (.tup (fs.map .int))) (f := some (.str W)) (g := d) (h1 := none) (i := none) (j := none) s
      exact ⟨_, rfl, _, _, hg', ⟨_, _, rfl, hw, hg⟩⟩)
    L 0 (L.length + 1) 0 [some (.ref w), some (.int (many : Int)), some (.tup (cs.map .int)), some (.str (flat cs)), o6, some (.tup (fs.map .int)), some (.str W), none, none, none, none] sB rfl (Nat.lt_succ_self _) ⟨o6, none, rfl, wB.mono (by omega), gB⟩
  have q8 : q_d__law_right_8 noTh [some (.ref w), some (.int (many : Int)), some (.tup (cs.map .int)), some (.str (flat cs)), o6, some (.tup (fs.map .int)), some (.str W), none, none, none, none] s7 = .nx [some (.ref w), some (.int (many : Int)), some (.tup (cs.map .int)), some (.str (flat cs)), o9, some (.tup (fs.map .int)), some (.str W), d9, none, none, none] s9 := by
    simp only [q_d__law_right_8, dFor, dIt, dBin, dCall, dApp, dCons, dNil, dC, dVar, dSl, dPt, dNoP, List.getElem?_cons_succ, List.getElem?_cons_zero, b_ok, s_ok, List.length_cons, List.length_nil, Nat.beq, if_true, e8, c121, c1, a1, a2, a3, a4, f3, p8, it_list (lst_of gB)]
    exact e9
  -- values that are no strings
  obtain ⟨kO, vs, sO, eO, gO, hO, lO, wO⟩ := odds_ok w9 (by omega)
  have hit : dIt (dCall 1 f__law_odd_values (dCons (dVar 0) (dNil))) noTh [some (.ref w), some (.int (many : Int)), some (.tup (cs.map .int)), some (.str (flat cs)), o9, some (.tup (fs.map .int)), some (.str W), d9, none, none, none] s9 = .ok (.dyn (vs.length + 1) (lstG kO)) sO := by
    simp only [dIt, dCall, dCons, dNil, dVar, List.getElem?_cons_zero, b_ok, List.length_cons, List.length_nil, Nat.beq, if_true, eO, it_list (lst_of gO)]
  have hle := dLc_list (it := dIt (dCall 1 f__law_odd_values (dCons (dVar 0) (dNil)))) (i := 10) (ts := dOrT (dTst (dCall 1 f_is_text (dCons (dVar 10) (dNil)))) (dTst (dCall 1 f_is_window (dCons (dVar 10) (dNil))))) (el := bo__law_right_0) (p := fun _ => false) (h := fun q => q) (own := [10]) (th := noTh) (env := [some (.ref w), some (.int (many : Int)), some (.tup (cs.map .int)), some (.str (flat cs)), o9, some (.tup (fs.map .int)), some (.str W), d9, none, none, none]) hit (lst_of gO) (Nat.lt_succ_self _) (by omega)
    (fun x hx acc => by
      simp only [mkF, env0, dSeq, dSet, dIfS, dRet, dRetN, dExp, dBin, dUn, dVar, dC, dCons, dNil, dApp, dMet, dCall, dCallV, b_ok, b_bad, s_ok, f_rt, f_nx, dTB, dTst, dNotT, dOrT, dAndT, dAnd, dOr, dNot, dChain, dIf, dSkip, dNever, Tg.set, e_le, e_lt, e_ge, e_gt, e_add, e_sub, List.map_cons, List.map_nil, List.length_cons, List.length_nil, List.replicate, List.cons_append, List.nil_append, List.append_nil, List.getElem?_cons_zero, List.getElem?_cons_succ, List.set_cons_zero, List.set_cons_succ, Nat.sub_self, Nat.reduceSub, Nat.reduceAdd, wipeE, Nat.beq, if_true, odd_text (hO x hx), odd_window (hO x hx), pTru])
    (fun x hx hp acc => by cases hp)
  rw [show vs.filter (fun _ => false) = [] by simp, List.map_nil] at hle
  have f0 := e_lst0 (sO ++ [SO.lst []])
  have q9e : pEq (.ref sO.length) (.ref (sO ++ [SO.lst []]).length) ((sO ++ [SO.lst []]) ++ [SO.lst []]) = .ok (.bl true) ((sO ++ [SO.lst []]) ++ [SO.lst []]) := eq_of_B (eqB_same (lst_of (get_app (get_end sO _ []))) (lst_end _ _ []) (fun _ h => nomatch h))
  have q9 : t_d__law_right_9 noTh [some (.ref w), some (.int (many : Int)), some (.tup (cs.map .int)), some (.str (flat cs)), o9, some (.tup (fs.map .int)), some (.str W), d9, none, none, none] s9 = .rt (.bl true) ((sO ++ [SO.lst []]) ++ [SO.lst []]) := by
    simp only [t_d__law_right_9, dRet, dBin, dApp, dNil, hle, b_ok, s_ok, f0, q9e]
  refine ⟨(sO ++ [SO.lst []]) ++ [SO.lst []], ?_, (wO.app.app).mono (by omega)⟩
  show mkF 11 d__law_right _ _ = _
  rw [t_d__law_right]
  unfold mkF t_d__law_right_0 t_d__law_right_1 t_d__law_right_2 t_d__law_right_3 t_d__law_right_4 t_d__law_right_5 t_d__law_right_6 t_d__law_right_7 t_d__law_right_8
  rw [sq q0, sq q1, sq q2, sq q3, sq q4, sq q5, sq q6, sq q7, sq q8, q9]
  rfl
end K09
end
section
set_option maxRecDepth 100000
set_option maxHeartbeats 4000000
namespace K09
open PySem PySem.Spec PyProof.Rows L2 Mi
theorem rep1 {α : Type} (a : α) : ∀ n : Nat, (List.replicate n [a]).flatten = List.replicate n a
  | 0 => rfl
  | n + 1 => by rw [List.replicate_succ, List.flatten_cons, rep1 a n, List.replicate_succ]; rfl
theorem flat0 : ∀ n : Nat, flat (List.replicate n (0 : Int)) = List.replicate (3 * n) 48
  | 0 => rfl
  | n + 1 => by
    rw [List.replicate_succ, flat_cons, flat0 n, show 3 * (n + 1) = 3 * n + 1 + 1 + 1 by omega, List.replicate_succ, List.replicate_succ, List.replicate_succ]
    rfl
theorem mul_str {s : List Nat} {k : Int} (h : cRep s.length k = true) (st : Sto) : pMul (.str s) (.int k) st = .ok (.str (List.replicate k.toNat s).flatten) st := by
  unfold pMul
  dsimp only
  rw [if_pos h]
theorem mul_tup {s : List PV} {k : Int} (h : cRep s.length k = true) (st : Sto) : pMul (.tup s) (.int k) st = .ok (.tup (List.replicate k.toNat s).flatten) st := by
  unfold pMul
  dsimp only
  rw [if_pos h]
theorem all_rep {n : Nat} {c : Nat} (h : sgB c = true) : (List.replicate n c).all sgB = true := List.all_eq_true.mpr fun d hd => by rw [List.eq_of_mem_replicate hd]; exact h
theorem told_many : told (List.replicate 60000 48) = some (List.replicate 20000 (0 : Int)) := by
  have e := flat0 20000
  have h : ∀ c ∈ List.replicate 20000 (0 : Int), 0 ≤ c ∧ c < 997 := fun c hc => by
    rw [List.eq_of_mem_replicate hc]
    exact ⟨by decide, by decide⟩
  have t := told_flat h
  rw [e] at t
  exact t
theorem okT_many : okT (List.replicate 60000 48) = true := by
  unfold okT
  rw [all_rep rfl, Bool.and_true, List.length_replicate]
  rfl
def TT : List Nat := [48, 48, 55, 48, 48, 48, 57, 57, 54]
def LL : List PV := [.str TT, .tup [.int 7, .int 0, .int 996], .non, .non, .tup []]
theorem q1_ok {a b c : Option PV} (s : Sto) : q_d_law_1 noTh [some (.ref 0), a, none, b, c] s = .nx [some (.ref 0), a, some (.ref s.length), b, c] (s ++ [.lst LL]) := by
  have h1 : ∀ s, f_cells_text [.tup [.int 7, .int 0, .int 996]] s = .ok (.str TT) s := fun s => ctext_f (cs := [7, 0, 996]) (by decide) (by decide) s
  have e2 : told [48, 48, 55, 48, 48, 48, 57, 57, 54] = some [7, 0, 996] := by decide +kernel
  have e3 : told [57, 57, 55] = none := by decide +kernel
  have e4 : told [48, 55] = none := by decide +kernel
  have e5 : told [] = some [] := by decide +kernel
  have h2 : ∀ s, f_told_cells [.str [48, 48, 55, 48, 48, 48, 57, 57, 54]] s = .ok (.tup [.int 7, .int 0, .int 996]) s := fun s => by rw [told_cells_f (by decide +kernel), e2]; rfl
  have h3 : ∀ s, f_told_cells [.str [57, 57, 55]] s = .ok .non s := fun s => by rw [told_cells_f (by decide +kernel), e3]; rfl
  have h4 : ∀ s, f_told_cells [.str [48, 55]] s = .ok .non s := fun s => by rw [told_cells_f (by decide +kernel), e4]; rfl
  have h5 : ∀ s, f_told_cells [.str []] s = .ok (.tup []) s := fun s => by rw [told_cells_f (by decide +kernel), e5]; rfl
  have f5 : ∀ (a b c d e : PV) (s : Sto), fLst [a, b, c, d, e] s = .ok (.ref s.length) (s ++ [.lst [a, b, c, d, e]]) := fun _ _ _ _ _ _ => rfl
  simp only [q_d_law_1, dSet, dApp, dCons, dNil, dC, dCall, b_ok, s_ok, e_tup3, List.length_cons, List.length_nil, Nat.beq, if_true, h1, h2, h3, h4, h5, f5, Tg.set, List.set_cons_succ, List.set_cons_zero]
  rfl
theorem good_LL (s : Sto) : ∀ p ∈ LL, Good 59 s p := by
  intro p hp
  simp only [LL, List.mem_cons, List.not_mem_nil, or_false] at hp
  rcases hp with rfl | rfl | rfl | rfl | rfl
  · exact good_str _ _ rfl
  · refine good_tup (n := 58) fun y hy => ?_
    simp only [List.mem_cons, List.not_mem_nil, or_false] at hy
    rcases hy with rfl | rfl | rfl <;> exact good_int _ _ _
  · exact good_non _ _
  · exact good_non _ _
  · exact good_tup (n := 58) fun _ h => nomatch h
theorem q2_ok {a b c : Option PV} (s : Sto) : q_d_law_2 noTh [some (.ref 0), a, some (.ref s.length), b, c] (s ++ [.lst LL]) = .nx [some (.ref 0), a, some (.ref s.length), b, c] ((s ++ [.lst LL]) ++ [.lst LL]) := by
  have f5 : ∀ (s : Sto), fLst [.str [48, 48, 55, 48, 48, 48, 57, 57, 54], .tup [.int 7, .int 0, .int 996], .non, .non, .tup []] s = .ok (.ref s.length) (s ++ [.lst LL]) := fun _ => rfl
  have t0 : ∀ s, fTup [] s = .ok (.tup []) s := fun s => rfl
  have hN : pNe (.ref s.length) (.ref (s ++ [SO.lst LL]).length) ((s ++ [.lst LL]) ++ [.lst LL]) = .ok (.bl false) ((s ++ [.lst LL]) ++ [.lst LL]) := ne_of_B (b := true) (eqB_same (lst_of (get_app (get_end s _ []))) (lst_end _ _ []) (good_LL _))
  have i1 : ∀ s, f_is_text [.str [32, 126, 35, 59]] s = .ok (.bl true) s := fun s => is_text_f (x := [32, 126, 35, 59]) (by decide) s
  have m1 : ∀ s, pMul (.str [120]) (.int 60000) s = .ok (.str (List.replicate 60000 120)) s := fun s => by
    rw [mul_str (s := [120]) (k := 60000) rfl s, rep1]
    rfl
  have i2 : ∀ s, f_is_text [.str (List.replicate 60000 120)] s = .ok (.bl true) s := fun s => by
    rw [is_text_f (by rw [List.length_replicate]; exact Nat.le_refl _), all_rep rfl]
  generalize List.replicate 60000 120 = X at *
  simp only [q_d_law_2, dIfS, dOrT, dTB, dNotT, dTst, dBin, dApp, dCons, dNil, dC, dCall, dVar, List.getElem?_cons_succ, List.getElem?_cons_zero, b_ok, s_ok, e_tup3, t0, List.length_cons, List.length_nil, Nat.beq, if_true, f5, hN, i1, m1, i2, pTru, Bool.not_true, dSkip]
theorem t3_ok {env : Mi.Env} (s : Sto) : t_d_law_3 noTh env s = .rt (.bl true) s := by
  have m1 : ∀ s, pMul (.str [48]) (.int 60000) s = .ok (.str (List.replicate 60000 48)) s := fun s => by
    rw [mul_str (s := [48]) (k := 60000) rfl s, rep1]
    rfl
  have h1 : ∀ s, f_told_cells [.str (List.replicate 60000 48)] s = .ok (.tup ((List.replicate 20000 (0 : Int)).map .int)) s := fun s => by
    rw [told_cells_f okT_many, told_many]
    rfl
  have t1 : ∀ p s, fTup [p] s = .ok (.tup [p]) s := fun p s => rfl
  have m2 : ∀ s, pMul (.tup [.int 0]) (.int 20000) s = .ok (.tup ((List.replicate 20000 (0 : Int)).map .int)) s := fun s => by
    rw [mul_tup (s := [.int 0]) (k := 20000) rfl s, rep1, List.map_replicate]
    rfl
  generalize List.replicate 60000 48 = X at *
  generalize List.replicate 20000 (0 : Int) = Y at *
  have hq : ∀ s, pEq (.tup (Y.map .int)) (.tup (Y.map .int)) s = .ok (.bl true) s := fun s => by
    have hg : ∀ x ∈ Y.map PV.int, Good 59 s x := fun x hx => by
      obtain ⟨v, _, rfl⟩ := List.mem_map.mp hx
      exact good_int _ _ _
    obtain ⟨d, e, q⟩ := good_tup hg
    refine eq_of_B (b := true) ?_
    show (match dat 60 s (.tup (Y.map .int)) with
      | some d => match dat 60 s (.tup (Y.map .int)) with
        | some e => some (PyData.eqv d e)
        | none => none
      | none => none) = _
    rw [e]
    dsimp only
    rw [q]
  simp only [t_d_law_3, dRet, dBin, dApp, dCons, dNil, dC, dCall, b_ok, s_ok, List.length_cons, List.length_nil, Nat.beq, if_true, t1, m1, m2, h1, hq]
/-! ### the law -/
theorem rights_ok {w : Nat} {a b : Option PV} {st : Sto} (h : Well w 0 st) : ∃ c st', forV (.nm 4) bo_law_0 noTh (rngV 0 1 2) [some (.ref 0), a, none, some (.ref w), b] st = .nx [some (.ref 0), a, none, some (.ref w), c] st' ∧ Fz st' := by
  obtain ⟨env', s4, e4, c, rfl, w4⟩ := forV_inv (B := 2) (t := .nm 4) (body := bo_law_0) (th := noTh) (I := fun m env s => ∃ b, env = [some (.ref 0), a, none, some (.ref w), b] ∧ Well w (300 * m) s) (rngV 0 1 2)
    (fun y hy m env s hm ⟨b, he, hw⟩ => by
      subst he
      obtain ⟨s', f1, f2⟩ := right_ok hw (by omega)
      refine ⟨_, rfl, _, _, ?_, ⟨some y, rfl, f2.mono (by omega)⟩⟩
      simp only [bo_law_0, mkF, env0, dSeq, dSet, dIfS, dRet, dRetN, dExp, dBin, dUn, dVar, dC, dCons, dNil, dApp, dMet, dCall, dCallV, b_ok, b_bad, s_ok, f_rt, f_nx, dTB, dTst, dNotT, dOrT, dAndT, dAnd, dOr, dNot, dChain, dIf, dSkip, dNever, Tg.set, e_le, e_lt, e_ge, e_gt, e_add, e_sub, List.map_cons, List.map_nil, List.length_cons, List.length_nil, List.replicate, List.cons_append, List.nil_append, List.append_nil, List.getElem?_cons_zero, List.getElem?_cons_succ, List.set_cons_zero, List.set_cons_succ, Nat.sub_self, Nat.reduceSub, Nat.reduceAdd, wipeE, Nat.beq, if_true, f1, pTru, Bool.not_true])
    0 [some (.ref 0), a, none, some (.ref w), b] st (by rw [rngV_len]; exact Nat.le_refl _) ⟨b, rfl, h⟩
  exact ⟨c, s4, e4, w4.fz⟩
theorem plain : Plain f_law := by
  intro ns hn hb
  have l0 : lstAt [SO.fz (ns.map .int)] 0 = some (ns.map .int) := rfl
  have le := e_lenR l0
  rw [List.length_map] at le
  have hi : ∀ s, fRng1 [.int 2] s = .ok (.vals (rngV 0 1 2)) s := fun s => e_rng1 s rfl
  generalize hj : (if (if (ns.length : Int) < 4 then (ns.length : Int) else 4) > 1 then (if (ns.length : Int) < 4 then (ns.length : Int) else 4) else 1) = j
  have j0 : 0 ≤ j ∧ j ≤ 4 := by
    rw [← hj]
    split <;> (try split) <;> omega
  have hr : ∀ s, fRng1 [.int j] s = .ok (.vals (rngV 0 1 j.toNat)) s := fun s => e_rng1 s (okI_small (by omega) (by omega))
  obtain ⟨env', s1, e1, a, b, c, rfl, z1⟩ := forV_inv (B := j.toNat) (t := .nm 1) (body := bo_law_1) (th := noTh) (I := fun m env s => ∃ a b c, env = [some (.ref 0), a, none, b, c] ∧ Fz s) (rngV 0 1 j.toNat)
    (fun y hy m env s hm ⟨a, b, c, he, hz⟩ => by
      subst he
      obtain ⟨i, rfl, hi2⟩ := rng_mem hy
      obtain ⟨w, s2, f1, f2⟩ := tray_ok hz (i := i) (by omega)
      obtain ⟨c', s3, f3, f4⟩ := rights_ok (a := some (.int i)) (b := c) f2
      refine ⟨_, rfl, _, _, ?_, ⟨some (.int i), some (.ref w), c', rfl, f4⟩⟩
      simp only [bo_law_1, mkF, env0, dSeq, dSet, dIfS, dRet, dRetN, dExp, dBin, dUn, dVar, dC, dCons, dNil, dApp, dMet, dCall, dCallV, b_ok, b_bad, s_ok, f_rt, f_nx, dTB, dTst, dNotT, dOrT, dAndT, dAnd, dOr, dNot, dChain, dIf, dSkip, dNever, Tg.set, e_le, e_lt, e_ge, e_gt, e_add, e_sub, List.map_cons, List.map_nil, List.length_cons, List.length_nil, List.replicate, List.cons_append, List.nil_append, List.append_nil, List.getElem?_cons_zero, List.getElem?_cons_succ, List.set_cons_zero, List.set_cons_succ, Nat.sub_self, Nat.reduceSub, Nat.reduceAdd, wipeE, Nat.beq, if_true, f1, dFor, dRng, hi]
      exact f3)
    0 [some (.ref 0), none, none, none, none] [SO.fz (ns.map .int)] (by rw [rngV_len]; omega) ⟨none, none, none, rfl, ⟨ns, rfl⟩⟩
  have q0 : q_d_law_0 noTh (env0 5 [.ref 0]) [SO.fz (ns.map .int)] = .nx [some (.ref 0), a, none, b, c] s1 := by
    simp only [q_d_law_0, dFor, dRng, mkF, env0, dSeq, dSet, dIfS, dRet, dRetN, dExp, dBin, dUn, dVar, dC, dCons, dNil, dApp, dMet, dCall, dCallV, b_ok, b_bad, s_ok, f_rt, f_nx, dTB, dTst, dNotT, dOrT, dAndT, dAnd, dOr, dNot, dChain, dIf, dSkip, dNever, Tg.set, e_le, e_lt, e_ge, e_gt, e_add, e_sub, List.map_cons, List.map_nil, List.length_cons, List.length_nil, List.replicate, List.cons_append, List.nil_append, List.append_nil, List.getElem?_cons_zero, List.getElem?_cons_succ, List.set_cons_zero, List.set_cons_succ, Nat.sub_self, Nat.reduceSub, Nat.reduceAdd, wipeE, le, e_min2, e_max2, hj, hr]
    exact e1
  refine ⟨(s1 ++ [.lst LL]) ++ [.lst LL], ?_⟩
  show mkF 5 d_law _ _ = _
  rw [t_d_law]
  unfold mkF t_d_law_0 t_d_law_1 t_d_law_2
  rw [sq q0, sq (q1_ok s1), sq (q2_ok s1), t3_ok]
  rfl
end K09
end
section
set_option maxRecDepth 100000
set_option maxHeartbeats 0
namespace K09
open PySem PySem.Spec PyProof.Rows L2 Mi
abbrev PR : PySem.Program := PySem.Challenge.pw_stillread_k09_whole_digits_of_cells
def top (i : Nat) : Stmt := PR.main.body.getD i (.Pass ⟨0, 0, 0, 0⟩)
def dD (i : Nat) (n : Str) : He.DefD := ⟨(n, none), n, n, defArgs (top i), defBody (top i), defScope (top i), [], []⟩
def fn : List He.DefD := [dD 7 "is_whole", dD 8 "is_within", dD 9 "is_cell", dD 10 "are_cells_in", dD 11 "is_cells", dD 23 "text_in", dD 24 "cells_told", dD 25 "window_at", dD 26 "is_text", dD 27 "require_text", dD 28 "is_window", dD 29 "cells_text", dD 30 "told_cells", dD 31 "window_text", dD 32 "window_cells", dD 34 "_law_tray", dD 35 "_law_pluck", dD 36 "_law_some", dD 37 "_law_three", dD 38 "_law_told", dD 39 "_law_window", dD 40 "_law_windows", dD 41 "_law_cells", dD 42 "_law_bit", dD 43 "_law_drawn", dD 44 "_law_near", dD 45 "_law_is_window", dD 46 "_law_odd_values", dD 47 "_law_right", dD 48 "law"]
def fa : List He.Fa := [.glo "is_whole", .glo "is_within", .glo "is_cell", .glo "are_cells_in", .glo "is_cells", .glo "text_in", .glo "cells_told", .glo "window_at", .glo "is_text", .glo "require_text", .glo "is_window", .glo "cells_text", .glo "told_cells", .glo "window_text", .glo "window_cells", .glo "_law_tray", .glo "_law_pluck", .glo "_law_some", .glo "_law_three", .glo "_law_told", .glo "_law_window", .glo "_law_windows", .glo "_law_cells", .glo "_law_bit", .glo "_law_drawn", .glo "_law_near", .glo "_law_is_window", .glo "_law_odd_values", .glo "_law_right", .glo "law", .free "abs", .free "all", .free "bool", .free "int", .free "isinstance", .free "len", .free "max", .free "min", .free "range", .free "str", .free "tuple", .str "BEGIN" "#", .int "DIGITS" (3), .str "END" ";", .str "FIGURES" "0123456789", .str "GREATEST_SIGN" "~", .str "LEAST_SIGN" " ", .int "MAX_CELL" (996), .int "MOST_DIGITS" (20000), .int "MOST_SIGNS" (60000), .int "PRIME" (997), .int "WINDOW_CELLS" (40), .int "WINDOW_SIGNS" (122)]
structure Gs (mg : Str → Option Value) : Prop where
  b_abs : mg "abs" = none
  b_all : mg "all" = none
  b_bool : mg "bool" = none
  b_int : mg "int" = none
  b_isinstance : mg "isinstance" = none
  b_len : mg "len" = none
  b_max : mg "max" = none
  b_min : mg "min" = none
  b_range : mg "range" = none
  b_str : mg "str" = none
  b_tuple : mg "tuple" = none
  BEGIN : ∃ t, mg "BEGIN" = some (.str "#" t)
  DIGITS : ∃ t, mg "DIGITS" = some (.int (3) t)
  END : ∃ t, mg "END" = some (.str ";" t)
  FIGURES : ∃ t, mg "FIGURES" = some (.str "0123456789" t)
  GREATEST_SIGN : ∃ t, mg "GREATEST_SIGN" = some (.str "~" t)
  LEAST_SIGN : ∃ t, mg "LEAST_SIGN" = some (.str " " t)
  MAX_CELL : ∃ t, mg "MAX_CELL" = some (.int (996) t)
  MOST_DIGITS : ∃ t, mg "MOST_DIGITS" = some (.int (20000) t)
  MOST_SIGNS : ∃ t, mg "MOST_SIGNS" = some (.int (60000) t)
  PRIME : ∃ t, mg "PRIME" = some (.int (997) t)
  WINDOW_CELLS : ∃ t, mg "WINDOW_CELLS" = some (.int (40) t)
  WINDOW_SIGNS : ∃ t, mg "WINDOW_SIGNS" = some (.int (122) t)
structure Wk (P : Program) (w : World) (mg : Str → Option Value) (base : Heap) (W : Wd) : Prop where
  g : Gs mg
  def_ : ∀ (i : Nat) (d : He.DefD), fn[i]? = some d → ∃ fd, FunD W.K d.name d.qual d.params d.body d.scope (d.dvs W.K) (d.kws W.K) (He.fAd W.K d.at_) fd
  x_0 : mg "is_whole" = some (.ref (He.ga W.K "is_whole"))
  x_1 : mg "is_within" = some (.ref (He.ga W.K "is_within"))
  x_2 : mg "is_cell" = some (.ref (He.ga W.K "is_cell"))
  x_3 : mg "are_cells_in" = some (.ref (He.ga W.K "are_cells_in"))
  x_4 : mg "is_cells" = some (.ref (He.ga W.K "is_cells"))
  x_5 : mg "text_in" = some (.ref (He.ga W.K "text_in"))
  x_6 : mg "cells_told" = some (.ref (He.ga W.K "cells_told"))
  x_7 : mg "window_at" = some (.ref (He.ga W.K "window_at"))
  x_8 : mg "is_text" = some (.ref (He.ga W.K "is_text"))
  x_9 : mg "require_text" = some (.ref (He.ga W.K "require_text"))
  x_10 : mg "is_window" = some (.ref (He.ga W.K "is_window"))
  x_11 : mg "cells_text" = some (.ref (He.ga W.K "cells_text"))
  x_12 : mg "told_cells" = some (.ref (He.ga W.K "told_cells"))
  x_13 : mg "window_text" = some (.ref (He.ga W.K "window_text"))
  x_14 : mg "window_cells" = some (.ref (He.ga W.K "window_cells"))
  x_15 : mg "_law_tray" = some (.ref (He.ga W.K "_law_tray"))
  x_16 : mg "_law_pluck" = some (.ref (He.ga W.K "_law_pluck"))
  x_17 : mg "_law_some" = some (.ref (He.ga W.K "_law_some"))
  x_18 : mg "_law_three" = some (.ref (He.ga W.K "_law_three"))
  x_19 : mg "_law_told" = some (.ref (He.ga W.K "_law_told"))
  x_20 : mg "_law_window" = some (.ref (He.ga W.K "_law_window"))
  x_21 : mg "_law_windows" = some (.ref (He.ga W.K "_law_windows"))
  x_22 : mg "_law_cells" = some (.ref (He.ga W.K "_law_cells"))
  x_23 : mg "_law_bit" = some (.ref (He.ga W.K "_law_bit"))
  x_24 : mg "_law_drawn" = some (.ref (He.ga W.K "_law_drawn"))
  x_25 : mg "_law_near" = some (.ref (He.ga W.K "_law_near"))
  x_26 : mg "_law_is_window" = some (.ref (He.ga W.K "_law_is_window"))
  x_27 : mg "_law_odd_values" = some (.ref (He.ga W.K "_law_odd_values"))
  x_28 : mg "_law_right" = some (.ref (He.ga W.K "_law_right"))
  x_29 : mg "law" = some (.ref (He.ga W.K "law"))
abbrev sc_0 : Scope := defScope (top 7)
abbrev sc_1 : Scope := defScope (top 8)
abbrev sc_2 : Scope := defScope (top 9)
abbrev sc_3 : Scope := defScope (top 10)
abbrev sc_4 : Scope := defScope (top 11)
abbrev sc_5 : Scope := defScope (top 23)
abbrev sc_6 : Scope := defScope (top 24)
abbrev sc_7 : Scope := defScope (top 25)
abbrev sc_8 : Scope := defScope (top 26)
abbrev sc_9 : Scope := defScope (top 27)
abbrev sc_10 : Scope := defScope (top 28)
abbrev sc_11 : Scope := defScope (top 29)
abbrev sc_12 : Scope := defScope (top 30)
abbrev sc_13 : Scope := defScope (top 31)
abbrev sc_14 : Scope := defScope (top 32)
abbrev sc_15 : Scope := defScope (top 34)
abbrev sc_16 : Scope := defScope (top 35)
abbrev sc_17 : Scope := defScope (top 36)
abbrev sc_18 : Scope := defScope (top 37)
abbrev sc_19 : Scope := defScope (top 38)
abbrev sc_20 : Scope := defScope (top 39)
abbrev sc_21 : Scope := defScope (top 40)
abbrev sc_22 : Scope := defScope (top 41)
abbrev sc_23 : Scope := defScope (top 42)
abbrev sc_24 : Scope := defScope (top 43)
abbrev sc_25 : Scope := defScope (top 44)
abbrev sc_26 : Scope := defScope (top 45)
abbrev sc_27 : Scope := defScope (top 46)
abbrev sc_28 : Scope := defScope (top 47)
abbrev sc_29 : Scope := defScope (top 48)
theorem bt_abs : bootBuiltins "abs" = some (.builtin "abs") := by decide +kernel
theorem nn_abs : ("abs" : Str) ≠ "__name__" := by decide +kernel
theorem bt_all : bootBuiltins "all" = some (.builtin "all") := by decide +kernel
theorem nn_all : ("all" : Str) ≠ "__name__" := by decide +kernel
theorem bt_bool : bootBuiltins "bool" = some (.type "bool") := by decide +kernel
theorem nn_bool : ("bool" : Str) ≠ "__name__" := by decide +kernel
theorem bt_int : bootBuiltins "int" = some (.type "int") := by decide +kernel
theorem nn_int : ("int" : Str) ≠ "__name__" := by decide +kernel
theorem bt_isinstance : bootBuiltins "isinstance" = some (.builtin "isinstance") := by decide +kernel
theorem nn_isinstance : ("isinstance" : Str) ≠ "__name__" := by decide +kernel
theorem bt_len : bootBuiltins "len" = some (.builtin "len") := by decide +kernel
theorem nn_len : ("len" : Str) ≠ "__name__" := by decide +kernel
theorem bt_max : bootBuiltins "max" = some (.builtin "max") := by decide +kernel
theorem nn_max : ("max" : Str) ≠ "__name__" := by decide +kernel
theorem bt_min : bootBuiltins "min" = some (.builtin "min") := by decide +kernel
theorem nn_min : ("min" : Str) ≠ "__name__" := by decide +kernel
theorem bt_range : bootBuiltins "range" = some (.type "range") := by decide +kernel
theorem nn_range : ("range" : Str) ≠ "__name__" := by decide +kernel
theorem bt_str : bootBuiltins "str" = some (.type "str") := by decide +kernel
theorem nn_str : ("str" : Str) ≠ "__name__" := by decide +kernel
theorem bt_tuple : bootBuiltins "tuple" = some (.type "tuple") := by decide +kernel
theorem nn_tuple : ("tuple" : Str) ≠ "__name__" := by decide +kernel
theorem lk_sc_0_value : sc_0.names.lookup ("value" : Str) = some (NameKind.local : NameKind) := by decide +kernel
theorem lk_sc_0_isinstance : sc_0.names.lookup ("isinstance" : Str) = some (NameKind.globalImplicit : NameKind) := by decide +kernel
theorem lk_sc_0_int : sc_0.names.lookup ("int" : Str) = some (NameKind.globalImplicit : NameKind) := by decide +kernel
theorem lk_sc_0_bool : sc_0.names.lookup ("bool" : Str) = some (NameKind.globalImplicit : NameKind) := by decide +kernel
theorem lk_sc_1_value : sc_1.names.lookup ("value" : Str) = some (NameKind.local : NameKind) := by decide +kernel
theorem lk_sc_1_is_whole : sc_1.names.lookup ("is_whole" : Str) = some (NameKind.globalImplicit : NameKind) := by decide +kernel
theorem lk_sc_1_least : sc_1.names.lookup ("least" : Str) = some (NameKind.local : NameKind) := by decide +kernel
theorem lk_sc_1_greatest : sc_1.names.lookup ("greatest" : Str) = some (NameKind.local : NameKind) := by decide +kernel
theorem lk_sc_2_MAX_CELL : sc_2.names.lookup ("MAX_CELL" : Str) = some (NameKind.globalImplicit : NameKind) := by decide +kernel
theorem lk_sc_2_value : sc_2.names.lookup ("value" : Str) = some (NameKind.local : NameKind) := by decide +kernel
theorem lk_sc_2_is_within : sc_2.names.lookup ("is_within" : Str) = some (NameKind.globalImplicit : NameKind) := by decide +kernel
theorem lk_sc_3_value : sc_3.names.lookup ("value" : Str) = some (NameKind.local : NameKind) := by decide +kernel
theorem lk_sc_3_all : sc_3.names.lookup ("all" : Str) = some (NameKind.globalImplicit : NameKind) := by decide +kernel
theorem lk_sc_3_isinstance : sc_3.names.lookup ("isinstance" : Str) = some (NameKind.globalImplicit : NameKind) := by decide +kernel
theorem lk_sc_3_tuple : sc_3.names.lookup ("tuple" : Str) = some (NameKind.globalImplicit : NameKind) := by decide +kernel
theorem lk_sc_3_least : sc_3.names.lookup ("least" : Str) = some (NameKind.local : NameKind) := by decide +kernel
theorem lk_sc_3_len : sc_3.names.lookup ("len" : Str) = some (NameKind.globalImplicit : NameKind) := by decide +kernel
theorem lk_sc_3_most : sc_3.names.lookup ("most" : Str) = some (NameKind.local : NameKind) := by decide +kernel
theorem lk_sc_4_value : sc_4.names.lookup ("value" : Str) = some (NameKind.local : NameKind) := by decide +kernel
theorem lk_sc_4_isinstance : sc_4.names.lookup ("isinstance" : Str) = some (NameKind.globalImplicit : NameKind) := by decide +kernel
theorem lk_sc_4_tuple : sc_4.names.lookup ("tuple" : Str) = some (NameKind.globalImplicit : NameKind) := by decide +kernel
theorem lk_sc_4_all : sc_4.names.lookup ("all" : Str) = some (NameKind.globalImplicit : NameKind) := by decide +kernel
theorem lk_sc_5_cells : sc_5.names.lookup ("cells" : Str) = some (NameKind.local : NameKind) := by decide +kernel
theorem lk_sc_6_cells : sc_6.names.lookup ("cells" : Str) = some (NameKind.local : NameKind) := by decide +kernel
theorem lk_sc_6_all : sc_6.names.lookup ("all" : Str) = some (NameKind.globalImplicit : NameKind) := by decide +kernel
theorem lk_sc_6_DIGITS : sc_6.names.lookup ("DIGITS" : Str) = some (NameKind.globalImplicit : NameKind) := by decide +kernel
theorem lk_sc_6_text : sc_6.names.lookup ("text" : Str) = some (NameKind.cell : NameKind) := by decide +kernel
theorem lk_sc_6_len : sc_6.names.lookup ("len" : Str) = some (NameKind.globalImplicit : NameKind) := by decide +kernel
theorem lk_sc_6_range : sc_6.names.lookup ("range" : Str) = some (NameKind.globalImplicit : NameKind) := by decide +kernel
theorem lk_sc_6_tuple : sc_6.names.lookup ("tuple" : Str) = some (NameKind.globalImplicit : NameKind) := by decide +kernel
theorem lk_sc_7_window : sc_7.names.lookup ("window" : Str) = some (NameKind.local : NameKind) := by decide +kernel
theorem lk_sc_7_cells_told : sc_7.names.lookup ("cells_told" : Str) = some (NameKind.globalImplicit : NameKind) := by decide +kernel
theorem lk_sc_7_len : sc_7.names.lookup ("len" : Str) = some (NameKind.globalImplicit : NameKind) := by decide +kernel
theorem lk_sc_7_WINDOW_SIGNS : sc_7.names.lookup ("WINDOW_SIGNS" : Str) = some (NameKind.globalImplicit : NameKind) := by decide +kernel
theorem lk_sc_7_BEGIN : sc_7.names.lookup ("BEGIN" : Str) = some (NameKind.globalImplicit : NameKind) := by decide +kernel
theorem lk_sc_7_END : sc_7.names.lookup ("END" : Str) = some (NameKind.globalImplicit : NameKind) := by decide +kernel
theorem lk_sc_7_text : sc_7.names.lookup ("text" : Str) = some (NameKind.local : NameKind) := by decide +kernel
theorem lk_sc_7_place : sc_7.names.lookup ("place" : Str) = some (NameKind.local : NameKind) := by decide +kernel
theorem lk_sc_8_value : sc_8.names.lookup ("value" : Str) = some (NameKind.local : NameKind) := by decide +kernel
theorem lk_sc_8_all : sc_8.names.lookup ("all" : Str) = some (NameKind.globalImplicit : NameKind) := by decide +kernel
theorem lk_sc_8_isinstance : sc_8.names.lookup ("isinstance" : Str) = some (NameKind.globalImplicit : NameKind) := by decide +kernel
theorem lk_sc_8_str : sc_8.names.lookup ("str" : Str) = some (NameKind.globalImplicit : NameKind) := by decide +kernel
theorem lk_sc_8_len : sc_8.names.lookup ("len" : Str) = some (NameKind.globalImplicit : NameKind) := by decide +kernel
theorem lk_sc_8_MOST_SIGNS : sc_8.names.lookup ("MOST_SIGNS" : Str) = some (NameKind.globalImplicit : NameKind) := by decide +kernel
theorem lk_sc_9_value : sc_9.names.lookup ("value" : Str) = some (NameKind.local : NameKind) := by decide +kernel
theorem lk_sc_9_is_text : sc_9.names.lookup ("is_text" : Str) = some (NameKind.globalImplicit : NameKind) := by decide +kernel
theorem lk_sc_10_value : sc_10.names.lookup ("value" : Str) = some (NameKind.local : NameKind) := by decide +kernel
theorem lk_sc_10_isinstance : sc_10.names.lookup ("isinstance" : Str) = some (NameKind.globalImplicit : NameKind) := by decide +kernel
theorem lk_sc_10_str : sc_10.names.lookup ("str" : Str) = some (NameKind.globalImplicit : NameKind) := by decide +kernel
theorem lk_sc_10_len : sc_10.names.lookup ("len" : Str) = some (NameKind.globalImplicit : NameKind) := by decide +kernel
theorem lk_sc_10_WINDOW_SIGNS : sc_10.names.lookup ("WINDOW_SIGNS" : Str) = some (NameKind.globalImplicit : NameKind) := by decide +kernel
theorem lk_sc_10_window_at : sc_10.names.lookup ("window_at" : Str) = some (NameKind.globalImplicit : NameKind) := by decide +kernel
theorem lk_sc_11_cells : sc_11.names.lookup ("cells" : Str) = some (NameKind.local : NameKind) := by decide +kernel
theorem lk_sc_11_text_in : sc_11.names.lookup ("text_in" : Str) = some (NameKind.globalImplicit : NameKind) := by decide +kernel
theorem lk_sc_11_is_cells : sc_11.names.lookup ("is_cells" : Str) = some (NameKind.globalImplicit : NameKind) := by decide +kernel
theorem lk_sc_11_len : sc_11.names.lookup ("len" : Str) = some (NameKind.globalImplicit : NameKind) := by decide +kernel
theorem lk_sc_11_MOST_DIGITS : sc_11.names.lookup ("MOST_DIGITS" : Str) = some (NameKind.globalImplicit : NameKind) := by decide +kernel
theorem lk_sc_12_text : sc_12.names.lookup ("text" : Str) = some (NameKind.local : NameKind) := by decide +kernel
theorem lk_sc_12_cells_told : sc_12.names.lookup ("cells_told" : Str) = some (NameKind.globalImplicit : NameKind) := by decide +kernel
theorem lk_sc_12_require_text : sc_12.names.lookup ("require_text" : Str) = some (NameKind.globalImplicit : NameKind) := by decide +kernel
theorem lk_sc_13_BEGIN : sc_13.names.lookup ("BEGIN" : Str) = some (NameKind.globalImplicit : NameKind) := by decide +kernel
theorem lk_sc_13_cells : sc_13.names.lookup ("cells" : Str) = some (NameKind.local : NameKind) := by decide +kernel
theorem lk_sc_13_text_in : sc_13.names.lookup ("text_in" : Str) = some (NameKind.globalImplicit : NameKind) := by decide +kernel
theorem lk_sc_13_END : sc_13.names.lookup ("END" : Str) = some (NameKind.globalImplicit : NameKind) := by decide +kernel
theorem lk_sc_13_WINDOW_CELLS : sc_13.names.lookup ("WINDOW_CELLS" : Str) = some (NameKind.globalImplicit : NameKind) := by decide +kernel
theorem lk_sc_13_are_cells_in : sc_13.names.lookup ("are_cells_in" : Str) = some (NameKind.globalImplicit : NameKind) := by decide +kernel
theorem lk_sc_14_text : sc_14.names.lookup ("text" : Str) = some (NameKind.local : NameKind) := by decide +kernel
theorem lk_sc_14_len : sc_14.names.lookup ("len" : Str) = some (NameKind.globalImplicit : NameKind) := by decide +kernel
theorem lk_sc_14_WINDOW_SIGNS : sc_14.names.lookup ("WINDOW_SIGNS" : Str) = some (NameKind.globalImplicit : NameKind) := by decide +kernel
theorem lk_sc_14_window_at : sc_14.names.lookup ("window_at" : Str) = some (NameKind.globalImplicit : NameKind) := by decide +kernel
theorem lk_sc_14_require_text : sc_14.names.lookup ("require_text" : Str) = some (NameKind.globalImplicit : NameKind) := by decide +kernel
theorem lk_sc_15__law_great : sc_15.names.lookup ("_law_great" : Str) = some (NameKind.local : NameKind) := by decide +kernel
theorem lk_sc_15__law_spot : sc_15.names.lookup ("_law_spot" : Str) = some (NameKind.local : NameKind) := by decide +kernel
theorem lk_sc_15__law_cell : sc_15.names.lookup ("_law_cell" : Str) = some (NameKind.local : NameKind) := by decide +kernel
theorem lk_sc_15_int : sc_15.names.lookup ("int" : Str) = some (NameKind.globalImplicit : NameKind) := by decide +kernel
theorem lk_sc_15_max : sc_15.names.lookup ("max" : Str) = some (NameKind.globalImplicit : NameKind) := by decide +kernel
theorem lk_sc_15_abs : sc_15.names.lookup ("abs" : Str) = some (NameKind.globalImplicit : NameKind) := by decide +kernel
theorem lk_sc_15__law_script : sc_15.names.lookup ("_law_script" : Str) = some (NameKind.local : NameKind) := by decide +kernel
theorem lk_sc_15_len : sc_15.names.lookup ("len" : Str) = some (NameKind.globalImplicit : NameKind) := by decide +kernel
theorem lk_sc_16__law_two : sc_16.names.lookup ("_law_two" : Str) = some (NameKind.local : NameKind) := by decide +kernel
theorem lk_sc_16_int : sc_16.names.lookup ("int" : Str) = some (NameKind.globalImplicit : NameKind) := by decide +kernel
theorem lk_sc_16__law_total : sc_16.names.lookup ("_law_total" : Str) = some (NameKind.local : NameKind) := by decide +kernel
theorem lk_sc_16__law_one : sc_16.names.lookup ("_law_one" : Str) = some (NameKind.local : NameKind) := by decide +kernel
theorem lk_sc_16__law_tray_here : sc_16.names.lookup ("_law_tray_here" : Str) = some (NameKind.local : NameKind) := by decide +kernel
theorem lk_sc_16__law_found : sc_16.names.lookup ("_law_found" : Str) = some (NameKind.local : NameKind) := by decide +kernel
theorem lk_sc_17__law_items : sc_17.names.lookup ("_law_items" : Str) = some (NameKind.local : NameKind) := by decide +kernel
theorem lk_sc_17_len : sc_17.names.lookup ("len" : Str) = some (NameKind.globalImplicit : NameKind) := by decide +kernel
theorem lk_sc_17__law_tray_here : sc_17.names.lookup ("_law_tray_here" : Str) = some (NameKind.local : NameKind) := by decide +kernel
theorem lk_sc_17__law_pluck : sc_17.names.lookup ("_law_pluck" : Str) = some (NameKind.globalImplicit : NameKind) := by decide +kernel
theorem lk_sc_18__law_cell : sc_18.names.lookup ("_law_cell" : Str) = some (NameKind.local : NameKind) := by decide +kernel
theorem lk_sc_18_str : sc_18.names.lookup ("str" : Str) = some (NameKind.globalImplicit : NameKind) := by decide +kernel
theorem lk_sc_19__law_found : sc_19.names.lookup ("_law_found" : Str) = some (NameKind.local : NameKind) := by decide +kernel
theorem lk_sc_19_tuple : sc_19.names.lookup ("tuple" : Str) = some (NameKind.globalImplicit : NameKind) := by decide +kernel
theorem lk_sc_19__law_digits : sc_19.names.lookup ("_law_digits" : Str) = some (NameKind.local : NameKind) := by decide +kernel
theorem lk_sc_19_len : sc_19.names.lookup ("len" : Str) = some (NameKind.globalImplicit : NameKind) := by decide +kernel
theorem lk_sc_19_range : sc_19.names.lookup ("range" : Str) = some (NameKind.globalImplicit : NameKind) := by decide +kernel
theorem lk_sc_19__law_at : sc_19.names.lookup ("_law_at" : Str) = some (NameKind.local : NameKind) := by decide +kernel
theorem lk_sc_19__law_three_here : sc_19.names.lookup ("_law_three_here" : Str) = some (NameKind.local : NameKind) := by decide +kernel
theorem lk_sc_19_int : sc_19.names.lookup ("int" : Str) = some (NameKind.globalImplicit : NameKind) := by decide +kernel
theorem lk_sc_20__law_cells_here : sc_20.names.lookup ("_law_cells_here" : Str) = some (NameKind.local : NameKind) := by decide +kernel
theorem lk_sc_21__law_found : sc_21.names.lookup ("_law_found" : Str) = some (NameKind.local : NameKind) := by decide +kernel
theorem lk_sc_21__law_text : sc_21.names.lookup ("_law_text" : Str) = some (NameKind.local : NameKind) := by decide +kernel
theorem lk_sc_21_len : sc_21.names.lookup ("len" : Str) = some (NameKind.globalImplicit : NameKind) := by decide +kernel
theorem lk_sc_21_range : sc_21.names.lookup ("range" : Str) = some (NameKind.globalImplicit : NameKind) := by decide +kernel
theorem lk_sc_21__law_place : sc_21.names.lookup ("_law_place" : Str) = some (NameKind.local : NameKind) := by decide +kernel
theorem lk_sc_21__law_cells_here : sc_21.names.lookup ("_law_cells_here" : Str) = some (NameKind.local : NameKind) := by decide +kernel
theorem lk_sc_21__law_told : sc_21.names.lookup ("_law_told" : Str) = some (NameKind.globalImplicit : NameKind) := by decide +kernel
theorem lk_sc_22__law_found : sc_22.names.lookup ("_law_found" : Str) = some (NameKind.local : NameKind) := by decide +kernel
theorem lk_sc_22_tuple : sc_22.names.lookup ("tuple" : Str) = some (NameKind.globalImplicit : NameKind) := by decide +kernel
theorem lk_sc_22_range : sc_22.names.lookup ("range" : Str) = some (NameKind.globalImplicit : NameKind) := by decide +kernel
theorem lk_sc_22__law_turn : sc_22.names.lookup ("_law_turn" : Str) = some (NameKind.local : NameKind) := by decide +kernel
theorem lk_sc_22__law_way : sc_22.names.lookup ("_law_way" : Str) = some (NameKind.local : NameKind) := by decide +kernel
theorem lk_sc_22__law_tray_here : sc_22.names.lookup ("_law_tray_here" : Str) = some (NameKind.local : NameKind) := by decide +kernel
theorem lk_sc_22__law_pluck : sc_22.names.lookup ("_law_pluck" : Str) = some (NameKind.globalImplicit : NameKind) := by decide +kernel
theorem lk_sc_22__law_some : sc_22.names.lookup ("_law_some" : Str) = some (NameKind.globalImplicit : NameKind) := by decide +kernel
theorem lk_sc_23__law_tray_here : sc_23.names.lookup ("_law_tray_here" : Str) = some (NameKind.local : NameKind) := by decide +kernel
theorem lk_sc_23__law_some : sc_23.names.lookup ("_law_some" : Str) = some (NameKind.globalImplicit : NameKind) := by decide +kernel
theorem lk_sc_23__law_way : sc_23.names.lookup ("_law_way" : Str) = some (NameKind.local : NameKind) := by decide +kernel
theorem lk_sc_23__law_window_here : sc_23.names.lookup ("_law_window_here" : Str) = some (NameKind.local : NameKind) := by decide +kernel
theorem lk_sc_23__law_at : sc_23.names.lookup ("_law_at" : Str) = some (NameKind.local : NameKind) := by decide +kernel
theorem lk_sc_23__law_pluck : sc_23.names.lookup ("_law_pluck" : Str) = some (NameKind.globalImplicit : NameKind) := by decide +kernel
theorem lk_sc_23__law_cells : sc_23.names.lookup ("_law_cells" : Str) = some (NameKind.globalImplicit : NameKind) := by decide +kernel
theorem lk_sc_23__law_window : sc_23.names.lookup ("_law_window" : Str) = some (NameKind.globalImplicit : NameKind) := by decide +kernel
theorem lk_sc_24__law_many : sc_24.names.lookup ("_law_many" : Str) = some (NameKind.local : NameKind) := by decide +kernel
theorem lk_sc_24__law_tray_here : sc_24.names.lookup ("_law_tray_here" : Str) = some (NameKind.cell : NameKind) := by decide +kernel
theorem lk_sc_24__law_pluck : sc_24.names.lookup ("_law_pluck" : Str) = some (NameKind.globalImplicit : NameKind) := by decide +kernel
theorem lk_sc_24_range : sc_24.names.lookup ("range" : Str) = some (NameKind.globalImplicit : NameKind) := by decide +kernel
theorem lk_sc_25__law_found : sc_25.names.lookup ("_law_found" : Str) = some (NameKind.local : NameKind) := by decide +kernel
theorem lk_sc_25__law_text : sc_25.names.lookup ("_law_text" : Str) = some (NameKind.local : NameKind) := by decide +kernel
theorem lk_sc_25__law_at : sc_25.names.lookup ("_law_at" : Str) = some (NameKind.local : NameKind) := by decide +kernel
theorem lk_sc_25_len : sc_25.names.lookup ("len" : Str) = some (NameKind.globalImplicit : NameKind) := by decide +kernel
theorem lk_sc_25__law_tray_here : sc_25.names.lookup ("_law_tray_here" : Str) = some (NameKind.local : NameKind) := by decide +kernel
theorem lk_sc_25__law_pluck : sc_25.names.lookup ("_law_pluck" : Str) = some (NameKind.globalImplicit : NameKind) := by decide +kernel
theorem lk_sc_26__law_value : sc_26.names.lookup ("_law_value" : Str) = some (NameKind.local : NameKind) := by decide +kernel
theorem lk_sc_26__law_told : sc_26.names.lookup ("_law_told" : Str) = some (NameKind.globalImplicit : NameKind) := by decide +kernel
theorem lk_sc_26_isinstance : sc_26.names.lookup ("isinstance" : Str) = some (NameKind.globalImplicit : NameKind) := by decide +kernel
theorem lk_sc_26_str : sc_26.names.lookup ("str" : Str) = some (NameKind.globalImplicit : NameKind) := by decide +kernel
theorem lk_sc_26_len : sc_26.names.lookup ("len" : Str) = some (NameKind.globalImplicit : NameKind) := by decide +kernel
theorem lk_sc_27__law_tray_here : sc_27.names.lookup ("_law_tray_here" : Str) = some (NameKind.local : NameKind) := by decide +kernel
theorem lk_sc_27__law_some : sc_27.names.lookup ("_law_some" : Str) = some (NameKind.globalImplicit : NameKind) := by decide +kernel
theorem lk_sc_28__law_tray_here : sc_28.names.lookup ("_law_tray_here" : Str) = some (NameKind.cell : NameKind) := by decide +kernel
theorem lk_sc_28__law_odd_values : sc_28.names.lookup ("_law_odd_values" : Str) = some (NameKind.globalImplicit : NameKind) := by decide +kernel
theorem lk_sc_28__law_window_here : sc_28.names.lookup ("_law_window_here" : Str) = some (NameKind.local : NameKind) := by decide +kernel
theorem lk_sc_28__law_near : sc_28.names.lookup ("_law_near" : Str) = some (NameKind.globalImplicit : NameKind) := by decide +kernel
theorem lk_sc_28__law_text : sc_28.names.lookup ("_law_text" : Str) = some (NameKind.local : NameKind) := by decide +kernel
theorem lk_sc_28__law_other : sc_28.names.lookup ("_law_other" : Str) = some (NameKind.local : NameKind) := by decide +kernel
theorem lk_sc_28_is_window : sc_28.names.lookup ("is_window" : Str) = some (NameKind.globalImplicit : NameKind) := by decide +kernel
theorem lk_sc_28__law_is_window : sc_28.names.lookup ("_law_is_window" : Str) = some (NameKind.globalImplicit : NameKind) := by decide +kernel
theorem lk_sc_28_window_cells : sc_28.names.lookup ("window_cells" : Str) = some (NameKind.globalImplicit : NameKind) := by decide +kernel
theorem lk_sc_28__law_due : sc_28.names.lookup ("_law_due" : Str) = some (NameKind.local : NameKind) := by decide +kernel
theorem lk_sc_28__law_told : sc_28.names.lookup ("_law_told" : Str) = some (NameKind.globalImplicit : NameKind) := by decide +kernel
theorem lk_sc_28__law_forty : sc_28.names.lookup ("_law_forty" : Str) = some (NameKind.local : NameKind) := by decide +kernel
theorem lk_sc_28_window_text : sc_28.names.lookup ("window_text" : Str) = some (NameKind.globalImplicit : NameKind) := by decide +kernel
theorem lk_sc_28__law_window : sc_28.names.lookup ("_law_window" : Str) = some (NameKind.globalImplicit : NameKind) := by decide +kernel
theorem lk_sc_28__law_cells : sc_28.names.lookup ("_law_cells" : Str) = some (NameKind.globalImplicit : NameKind) := by decide +kernel
theorem lk_sc_28_told_cells : sc_28.names.lookup ("told_cells" : Str) = some (NameKind.globalImplicit : NameKind) := by decide +kernel
theorem lk_sc_28_is_text : sc_28.names.lookup ("is_text" : Str) = some (NameKind.globalImplicit : NameKind) := by decide +kernel
theorem lk_sc_28__law_cells_here : sc_28.names.lookup ("_law_cells_here" : Str) = some (NameKind.local : NameKind) := by decide +kernel
theorem lk_sc_28_cells_text : sc_28.names.lookup ("cells_text" : Str) = some (NameKind.globalImplicit : NameKind) := by decide +kernel
theorem lk_sc_28__law_many : sc_28.names.lookup ("_law_many" : Str) = some (NameKind.local : NameKind) := by decide +kernel
theorem lk_sc_28_range : sc_28.names.lookup ("range" : Str) = some (NameKind.globalImplicit : NameKind) := by decide +kernel
theorem lk_sc_28_tuple : sc_28.names.lookup ("tuple" : Str) = some (NameKind.globalImplicit : NameKind) := by decide +kernel
theorem lk_sc_28__law_pluck : sc_28.names.lookup ("_law_pluck" : Str) = some (NameKind.globalImplicit : NameKind) := by decide +kernel
theorem lk_sc_28__law_some : sc_28.names.lookup ("_law_some" : Str) = some (NameKind.globalImplicit : NameKind) := by decide +kernel
theorem lk_sc_29_told_cells : sc_29.names.lookup ("told_cells" : Str) = some (NameKind.globalImplicit : NameKind) := by decide +kernel
theorem lk_sc_29__law_told_here : sc_29.names.lookup ("_law_told_here" : Str) = some (NameKind.local : NameKind) := by decide +kernel
theorem lk_sc_29_is_text : sc_29.names.lookup ("is_text" : Str) = some (NameKind.globalImplicit : NameKind) := by decide +kernel
theorem lk_sc_29_cells_text : sc_29.names.lookup ("cells_text" : Str) = some (NameKind.globalImplicit : NameKind) := by decide +kernel
theorem lk_sc_29__law_script : sc_29.names.lookup ("_law_script" : Str) = some (NameKind.local : NameKind) := by decide +kernel
theorem lk_sc_29_len : sc_29.names.lookup ("len" : Str) = some (NameKind.globalImplicit : NameKind) := by decide +kernel
theorem lk_sc_29_min : sc_29.names.lookup ("min" : Str) = some (NameKind.globalImplicit : NameKind) := by decide +kernel
theorem lk_sc_29_max : sc_29.names.lookup ("max" : Str) = some (NameKind.globalImplicit : NameKind) := by decide +kernel
theorem lk_sc_29_range : sc_29.names.lookup ("range" : Str) = some (NameKind.globalImplicit : NameKind) := by decide +kernel
theorem lk_sc_29__law_spot : sc_29.names.lookup ("_law_spot" : Str) = some (NameKind.local : NameKind) := by decide +kernel
theorem lk_sc_29__law_turn : sc_29.names.lookup ("_law_turn" : Str) = some (NameKind.local : NameKind) := by decide +kernel
theorem lk_sc_29__law_tray_here : sc_29.names.lookup ("_law_tray_here" : Str) = some (NameKind.local : NameKind) := by decide +kernel
theorem lk_sc_29__law_right : sc_29.names.lookup ("_law_right" : Str) = some (NameKind.globalImplicit : NameKind) := by decide +kernel
theorem lk_sc_29__law_tray : sc_29.names.lookup ("_law_tray" : Str) = some (NameKind.globalImplicit : NameKind) := by decide +kernel
theorem nd_BEGIN : (("BEGIN" : Str) == ("__debug__" : Str)) = false := by decide +kernel
theorem nc_BEGIN : (("BEGIN" : Str) == ("__classdict__" : Str)) = false := by decide +kernel
theorem nd_DIGITS : (("DIGITS" : Str) == ("__debug__" : Str)) = false := by decide +kernel
theorem nc_DIGITS : (("DIGITS" : Str) == ("__classdict__" : Str)) = false := by decide +kernel
theorem nd_END : (("END" : Str) == ("__debug__" : Str)) = false := by decide +kernel
theorem nc_END : (("END" : Str) == ("__classdict__" : Str)) = false := by decide +kernel
theorem nd_FIGURES : (("FIGURES" : Str) == ("__debug__" : Str)) = false := by decide +kernel
theorem nc_FIGURES : (("FIGURES" : Str) == ("__classdict__" : Str)) = false := by decide +kernel
theorem nd_GREATEST_SIGN : (("GREATEST_SIGN" : Str) == ("__debug__" : Str)) = false := by decide +kernel
theorem nc_GREATEST_SIGN : (("GREATEST_SIGN" : Str) == ("__classdict__" : Str)) = false := by decide +kernel
theorem nd_LEAST_SIGN : (("LEAST_SIGN" : Str) == ("__debug__" : Str)) = false := by decide +kernel
theorem nc_LEAST_SIGN : (("LEAST_SIGN" : Str) == ("__classdict__" : Str)) = false := by decide +kernel
theorem nd_MAX_CELL : (("MAX_CELL" : Str) == ("__debug__" : Str)) = false := by decide +kernel
theorem nc_MAX_CELL : (("MAX_CELL" : Str) == ("__classdict__" : Str)) = false := by decide +kernel
theorem nd_MOST_DIGITS : (("MOST_DIGITS" : Str) == ("__debug__" : Str)) = false := by decide +kernel
theorem nc_MOST_DIGITS : (("MOST_DIGITS" : Str) == ("__classdict__" : Str)) = false := by decide +kernel
theorem nd_MOST_SIGNS : (("MOST_SIGNS" : Str) == ("__debug__" : Str)) = false := by decide +kernel
theorem nc_MOST_SIGNS : (("MOST_SIGNS" : Str) == ("__classdict__" : Str)) = false := by decide +kernel
theorem nd_PRIME : (("PRIME" : Str) == ("__debug__" : Str)) = false := by decide +kernel
theorem nc_PRIME : (("PRIME" : Str) == ("__classdict__" : Str)) = false := by decide +kernel
theorem nd_WINDOW_CELLS : (("WINDOW_CELLS" : Str) == ("__debug__" : Str)) = false := by decide +kernel
theorem nc_WINDOW_CELLS : (("WINDOW_CELLS" : Str) == ("__classdict__" : Str)) = false := by decide +kernel
theorem nd_WINDOW_SIGNS : (("WINDOW_SIGNS" : Str) == ("__debug__" : Str)) = false := by decide +kernel
theorem nc_WINDOW_SIGNS : (("WINDOW_SIGNS" : Str) == ("__classdict__" : Str)) = false := by decide +kernel
theorem nd__law_at : (("_law_at" : Str) == ("__debug__" : Str)) = false := by decide +kernel
theorem nc__law_at : (("_law_at" : Str) == ("__classdict__" : Str)) = false := by decide +kernel
theorem nd__law_bit : (("_law_bit" : Str) == ("__debug__" : Str)) = false := by decide +kernel
theorem nc__law_bit : (("_law_bit" : Str) == ("__classdict__" : Str)) = false := by decide +kernel
theorem nd__law_cell : (("_law_cell" : Str) == ("__debug__" : Str)) = false := by decide +kernel
theorem nc__law_cell : (("_law_cell" : Str) == ("__classdict__" : Str)) = false := by decide +kernel
theorem nd__law_cells : (("_law_cells" : Str) == ("__debug__" : Str)) = false := by decide +kernel
theorem nc__law_cells : (("_law_cells" : Str) == ("__classdict__" : Str)) = false := by decide +kernel
theorem nd__law_cells_here : (("_law_cells_here" : Str) == ("__debug__" : Str)) = false := by decide +kernel
theorem nc__law_cells_here : (("_law_cells_here" : Str) == ("__classdict__" : Str)) = false := by decide +kernel
theorem nd__law_digits : (("_law_digits" : Str) == ("__debug__" : Str)) = false := by decide +kernel
theorem nc__law_digits : (("_law_digits" : Str) == ("__classdict__" : Str)) = false := by decide +kernel
theorem nd__law_due : (("_law_due" : Str) == ("__debug__" : Str)) = false := by decide +kernel
theorem nc__law_due : (("_law_due" : Str) == ("__classdict__" : Str)) = false := by decide +kernel
theorem nd__law_forty : (("_law_forty" : Str) == ("__debug__" : Str)) = false := by decide +kernel
theorem nc__law_forty : (("_law_forty" : Str) == ("__classdict__" : Str)) = false := by decide +kernel
theorem nd__law_found : (("_law_found" : Str) == ("__debug__" : Str)) = false := by decide +kernel
theorem nc__law_found : (("_law_found" : Str) == ("__classdict__" : Str)) = false := by decide +kernel
theorem nd__law_great : (("_law_great" : Str) == ("__debug__" : Str)) = false := by decide +kernel
theorem nc__law_great : (("_law_great" : Str) == ("__classdict__" : Str)) = false := by decide +kernel
theorem nd__law_is_window : (("_law_is_window" : Str) == ("__debug__" : Str)) = false := by decide +kernel
theorem nc__law_is_window : (("_law_is_window" : Str) == ("__classdict__" : Str)) = false := by decide +kernel
theorem nd__law_items : (("_law_items" : Str) == ("__debug__" : Str)) = false := by decide +kernel
theorem nc__law_items : (("_law_items" : Str) == ("__classdict__" : Str)) = false := by decide +kernel
theorem nd__law_many : (("_law_many" : Str) == ("__debug__" : Str)) = false := by decide +kernel
theorem nc__law_many : (("_law_many" : Str) == ("__classdict__" : Str)) = false := by decide +kernel
theorem nd__law_near : (("_law_near" : Str) == ("__debug__" : Str)) = false := by decide +kernel
theorem nc__law_near : (("_law_near" : Str) == ("__classdict__" : Str)) = false := by decide +kernel
theorem nd__law_odd_values : (("_law_odd_values" : Str) == ("__debug__" : Str)) = false := by decide +kernel
theorem nc__law_odd_values : (("_law_odd_values" : Str) == ("__classdict__" : Str)) = false := by decide +kernel
theorem nd__law_one : (("_law_one" : Str) == ("__debug__" : Str)) = false := by decide +kernel
theorem nc__law_one : (("_law_one" : Str) == ("__classdict__" : Str)) = false := by decide +kernel
theorem nd__law_other : (("_law_other" : Str) == ("__debug__" : Str)) = false := by decide +kernel
theorem nc__law_other : (("_law_other" : Str) == ("__classdict__" : Str)) = false := by decide +kernel
theorem nd__law_place : (("_law_place" : Str) == ("__debug__" : Str)) = false := by decide +kernel
theorem nc__law_place : (("_law_place" : Str) == ("__classdict__" : Str)) = false := by decide +kernel
theorem nd__law_pluck : (("_law_pluck" : Str) == ("__debug__" : Str)) = false := by decide +kernel
theorem nc__law_pluck : (("_law_pluck" : Str) == ("__classdict__" : Str)) = false := by decide +kernel
theorem nd__law_right : (("_law_right" : Str) == ("__debug__" : Str)) = false := by decide +kernel
theorem nc__law_right : (("_law_right" : Str) == ("__classdict__" : Str)) = false := by decide +kernel
theorem nd__law_script : (("_law_script" : Str) == ("__debug__" : Str)) = false := by decide +kernel
theorem nc__law_script : (("_law_script" : Str) == ("__classdict__" : Str)) = false := by decide +kernel
theorem nd__law_sign : (("_law_sign" : Str) == ("__debug__" : Str)) = false := by decide +kernel
theorem nc__law_sign : (("_law_sign" : Str) == ("__classdict__" : Str)) = false := by decide +kernel
theorem nd__law_some : (("_law_some" : Str) == ("__debug__" : Str)) = false := by decide +kernel
theorem nc__law_some : (("_law_some" : Str) == ("__classdict__" : Str)) = false := by decide +kernel
theorem nd__law_spot : (("_law_spot" : Str) == ("__debug__" : Str)) = false := by decide +kernel
theorem nc__law_spot : (("_law_spot" : Str) == ("__classdict__" : Str)) = false := by decide +kernel
theorem nd__law_text : (("_law_text" : Str) == ("__debug__" : Str)) = false := by decide +kernel
theorem nc__law_text : (("_law_text" : Str) == ("__classdict__" : Str)) = false := by decide +kernel
theorem nd__law_three : (("_law_three" : Str) == ("__debug__" : Str)) = false := by decide +kernel
theorem nc__law_three : (("_law_three" : Str) == ("__classdict__" : Str)) = false := by decide +kernel
theorem nd__law_three_here : (("_law_three_here" : Str) == ("__debug__" : Str)) = false := by decide +kernel
theorem nc__law_three_here : (("_law_three_here" : Str) == ("__classdict__" : Str)) = false := by decide +kernel
theorem nd__law_told : (("_law_told" : Str) == ("__debug__" : Str)) = false := by decide +kernel
theorem nc__law_told : (("_law_told" : Str) == ("__classdict__" : Str)) = false := by decide +kernel
theorem nd__law_told_here : (("_law_told_here" : Str) == ("__debug__" : Str)) = false := by decide +kernel
theorem nc__law_told_here : (("_law_told_here" : Str) == ("__classdict__" : Str)) = false := by decide +kernel
theorem nd__law_total : (("_law_total" : Str) == ("__debug__" : Str)) = false := by decide +kernel
theorem nc__law_total : (("_law_total" : Str) == ("__classdict__" : Str)) = false := by decide +kernel
theorem nd__law_tray : (("_law_tray" : Str) == ("__debug__" : Str)) = false := by decide +kernel
theorem nc__law_tray : (("_law_tray" : Str) == ("__classdict__" : Str)) = false := by decide +kernel
theorem nd__law_tray_here : (("_law_tray_here" : Str) == ("__debug__" : Str)) = false := by decide +kernel
theorem nc__law_tray_here : (("_law_tray_here" : Str) == ("__classdict__" : Str)) = false := by decide +kernel
theorem nd__law_two : (("_law_two" : Str) == ("__debug__" : Str)) = false := by decide +kernel
theorem nc__law_two : (("_law_two" : Str) == ("__classdict__" : Str)) = false := by decide +kernel
theorem nd__law_value : (("_law_value" : Str) == ("__debug__" : Str)) = false := by decide +kernel
theorem nc__law_value : (("_law_value" : Str) == ("__classdict__" : Str)) = false := by decide +kernel
theorem nd__law_way : (("_law_way" : Str) == ("__debug__" : Str)) = false := by decide +kernel
theorem nc__law_way : (("_law_way" : Str) == ("__classdict__" : Str)) = false := by decide +kernel
theorem nd__law_window : (("_law_window" : Str) == ("__debug__" : Str)) = false := by decide +kernel
theorem nc__law_window : (("_law_window" : Str) == ("__classdict__" : Str)) = false := by decide +kernel
theorem nd__law_window_here : (("_law_window_here" : Str) == ("__debug__" : Str)) = false := by decide +kernel
theorem nc__law_window_here : (("_law_window_here" : Str) == ("__classdict__" : Str)) = false := by decide +kernel
theorem nd_abs : (("abs" : Str) == ("__debug__" : Str)) = false := by decide +kernel
theorem nc_abs : (("abs" : Str) == ("__classdict__" : Str)) = false := by decide +kernel
theorem nd_all : (("all" : Str) == ("__debug__" : Str)) = false := by decide +kernel
theorem nc_all : (("all" : Str) == ("__classdict__" : Str)) = false := by decide +kernel
theorem nd_are_cells_in : (("are_cells_in" : Str) == ("__debug__" : Str)) = false := by decide +kernel
theorem nc_are_cells_in : (("are_cells_in" : Str) == ("__classdict__" : Str)) = false := by decide +kernel
theorem nd_at : (("at" : Str) == ("__debug__" : Str)) = false := by decide +kernel
theorem nc_at : (("at" : Str) == ("__classdict__" : Str)) = false := by decide +kernel
theorem nd_bool : (("bool" : Str) == ("__debug__" : Str)) = false := by decide +kernel
theorem nc_bool : (("bool" : Str) == ("__classdict__" : Str)) = false := by decide +kernel
theorem nd_cell : (("cell" : Str) == ("__debug__" : Str)) = false := by decide +kernel
theorem nc_cell : (("cell" : Str) == ("__classdict__" : Str)) = false := by decide +kernel
theorem nd_cells : (("cells" : Str) == ("__debug__" : Str)) = false := by decide +kernel
theorem nc_cells : (("cells" : Str) == ("__classdict__" : Str)) = false := by decide +kernel
theorem nd_cells_text : (("cells_text" : Str) == ("__debug__" : Str)) = false := by decide +kernel
theorem nc_cells_text : (("cells_text" : Str) == ("__classdict__" : Str)) = false := by decide +kernel
theorem nd_cells_told : (("cells_told" : Str) == ("__debug__" : Str)) = false := by decide +kernel
theorem nc_cells_told : (("cells_told" : Str) == ("__classdict__" : Str)) = false := by decide +kernel
theorem nd_greatest : (("greatest" : Str) == ("__debug__" : Str)) = false := by decide +kernel
theorem nc_greatest : (("greatest" : Str) == ("__classdict__" : Str)) = false := by decide +kernel
theorem nd_int : (("int" : Str) == ("__debug__" : Str)) = false := by decide +kernel
theorem nc_int : (("int" : Str) == ("__classdict__" : Str)) = false := by decide +kernel
theorem nd_is_cell : (("is_cell" : Str) == ("__debug__" : Str)) = false := by decide +kernel
theorem nc_is_cell : (("is_cell" : Str) == ("__classdict__" : Str)) = false := by decide +kernel
theorem nd_is_cells : (("is_cells" : Str) == ("__debug__" : Str)) = false := by decide +kernel
theorem nc_is_cells : (("is_cells" : Str) == ("__classdict__" : Str)) = false := by decide +kernel
theorem nd_is_text : (("is_text" : Str) == ("__debug__" : Str)) = false := by decide +kernel
theorem nc_is_text : (("is_text" : Str) == ("__classdict__" : Str)) = false := by decide +kernel
theorem nd_is_whole : (("is_whole" : Str) == ("__debug__" : Str)) = false := by decide +kernel
theorem nc_is_whole : (("is_whole" : Str) == ("__classdict__" : Str)) = false := by decide +kernel
theorem nd_is_window : (("is_window" : Str) == ("__debug__" : Str)) = false := by decide +kernel
theorem nc_is_window : (("is_window" : Str) == ("__classdict__" : Str)) = false := by decide +kernel
theorem nd_is_within : (("is_within" : Str) == ("__debug__" : Str)) = false := by decide +kernel
theorem nc_is_within : (("is_within" : Str) == ("__classdict__" : Str)) = false := by decide +kernel
theorem nd_least : (("least" : Str) == ("__debug__" : Str)) = false := by decide +kernel
theorem nc_least : (("least" : Str) == ("__classdict__" : Str)) = false := by decide +kernel
theorem nd_len : (("len" : Str) == ("__debug__" : Str)) = false := by decide +kernel
theorem nc_len : (("len" : Str) == ("__classdict__" : Str)) = false := by decide +kernel
theorem nd_max : (("max" : Str) == ("__debug__" : Str)) = false := by decide +kernel
theorem nc_max : (("max" : Str) == ("__classdict__" : Str)) = false := by decide +kernel
theorem nd_min : (("min" : Str) == ("__debug__" : Str)) = false := by decide +kernel
theorem nc_min : (("min" : Str) == ("__classdict__" : Str)) = false := by decide +kernel
theorem nd_most : (("most" : Str) == ("__debug__" : Str)) = false := by decide +kernel
theorem nc_most : (("most" : Str) == ("__classdict__" : Str)) = false := by decide +kernel
theorem nd_place : (("place" : Str) == ("__debug__" : Str)) = false := by decide +kernel
theorem nc_place : (("place" : Str) == ("__classdict__" : Str)) = false := by decide +kernel
theorem nd_require_text : (("require_text" : Str) == ("__debug__" : Str)) = false := by decide +kernel
theorem nc_require_text : (("require_text" : Str) == ("__classdict__" : Str)) = false := by decide +kernel
theorem nd_sign : (("sign" : Str) == ("__debug__" : Str)) = false := by decide +kernel
theorem nc_sign : (("sign" : Str) == ("__classdict__" : Str)) = false := by decide +kernel
theorem nd_str : (("str" : Str) == ("__debug__" : Str)) = false := by decide +kernel
theorem nc_str : (("str" : Str) == ("__classdict__" : Str)) = false := by decide +kernel
theorem nd_text : (("text" : Str) == ("__debug__" : Str)) = false := by decide +kernel
theorem nc_text : (("text" : Str) == ("__classdict__" : Str)) = false := by decide +kernel
theorem nd_text_in : (("text_in" : Str) == ("__debug__" : Str)) = false := by decide +kernel
theorem nc_text_in : (("text_in" : Str) == ("__classdict__" : Str)) = false := by decide +kernel
theorem nd_told_cells : (("told_cells" : Str) == ("__debug__" : Str)) = false := by decide +kernel
theorem nc_told_cells : (("told_cells" : Str) == ("__classdict__" : Str)) = false := by decide +kernel
theorem nd_tuple : (("tuple" : Str) == ("__debug__" : Str)) = false := by decide +kernel
theorem nc_tuple : (("tuple" : Str) == ("__classdict__" : Str)) = false := by decide +kernel
theorem nd_value : (("value" : Str) == ("__debug__" : Str)) = false := by decide +kernel
theorem nc_value : (("value" : Str) == ("__classdict__" : Str)) = false := by decide +kernel
theorem nd_window : (("window" : Str) == ("__debug__" : Str)) = false := by decide +kernel
theorem nc_window : (("window" : Str) == ("__classdict__" : Str)) = false := by decide +kernel
theorem nd_window_at : (("window_at" : Str) == ("__debug__" : Str)) = false := by decide +kernel
theorem nc_window_at : (("window_at" : Str) == ("__classdict__" : Str)) = false := by decide +kernel
theorem nd_window_cells : (("window_cells" : Str) == ("__debug__" : Str)) = false := by decide +kernel
theorem nc_window_cells : (("window_cells" : Str) == ("__classdict__" : Str)) = false := by decide +kernel
theorem nd_window_text : (("window_text" : Str) == ("__debug__" : Str)) = false := by decide +kernel
theorem nc_window_text : (("window_text" : Str) == ("__classdict__" : Str)) = false := by decide +kernel
theorem fn_0 {P : Program} {w : World} {mg : Str → Option Value} {base : Heap} {W : Wd} (h : Wk P w mg base W) {fd : FuncData} (F : FunD W.K "is_whole" "is_whole" (defArgs (top 7)) (defBody (top 7)) (defScope (top 7)) [] [] (He.ga W.K "is_whole") fd) : FnG P w W.K mg base 1 (He.ga W.K "is_whole") fd ["value"] (spN W 1 f_is_whole) := by
  refine fn_ok (N := ["value"]) (d := d_is_whole) rfl F ⟨rfl, rfl, rfl, by decide +kernel, rfl, by decide +kernel, by decide +kernel⟩ (.refl _) fun cdv A outer s H E hr J2 => ?_
  exact (ys_one (ys_ret J2.toXJ (xe_and J2.toXJ (xe_isi (ty := .int) J2.toXJ lk_sc_0_isinstance h.g.b_isinstance lk_sc_0_int h.g.b_int bt_int (by decide) (xe_var (i := 0) rfl (.inl lk_sc_0_value) nd_value nc_value) nn_int nd_int) (xe_one (xe_not J2.toXJ (xe_isi (ty := .bool) J2.toXJ lk_sc_0_isinstance h.g.b_isinstance lk_sc_0_bool h.g.b_bool bt_bool (by decide) (xe_var (i := 0) rfl (.inl lk_sc_0_value) nd_value nc_value) nn_bool nd_bool))))))
theorem bn_0 {K : PySem.W.Frag} {f : Addr} {fd : FuncData} (F : FunD K "is_whole" "is_whole" (defArgs (top 7)) (defBody (top 7)) (defScope (top 7)) [] [] f fd) : Binds K fd ["value"] [] := F.bindsN fun _ _ _ _ _ _ us hl => match us, hl with | [_], _ => rfl
theorem c_0 {P : Program} {w : World} {mg : Str → Option Value} {base : Heap} {W : Wd} (h : Wk P w mg base W) : Cal P w mg base 1 "is_whole" 1 W f_is_whole := by
  obtain ⟨fd, F⟩ := h.def_ 0 _ rfl
  exact ⟨_, fd, ["value"], rfl, fn_0 h F, h.x_0, F.kp, bn_0 F⟩
theorem fn_1 {P : Program} {w : World} {mg : Str → Option Value} {base : Heap} {W : Wd} (h : Wk P w mg base W) {fd : FuncData} (F : FunD W.K "is_within" "is_within" (defArgs (top 8)) (defBody (top 8)) (defScope (top 8)) [] [] (He.ga W.K "is_within") fd) : FnG P w W.K mg base 2 (He.ga W.K "is_within") fd ["value", "least", "greatest"] (spN W 3 f_is_within) := by
  have hc_0 := c_0 h
  refine fn_ok (N := ["value", "least", "greatest"]) (d := d_is_within) rfl F ⟨rfl, rfl, rfl, by decide +kernel, rfl, by decide +kernel, by decide +kernel⟩ (.refl _) fun cdv A outer s H E hr J2 => ?_
  exact (ys_one (ys_ret J2.toXJ (xe_and J2.toXJ (xe_call J2 (hc_0.mono (by decide)) hr lk_sc_1_is_whole (xa_cons J2.toXJ (xe_var (i := 0) rfl (.inl lk_sc_1_value) nd_value nc_value) xa_nil) nd_is_whole) (xe_one (xe_chain J2.toXJ op_leA op_leA ok_cmp ok_cmp (xe_var (i := 1) rfl (.inl lk_sc_1_least) nd_least nc_least) (xe_var (i := 0) rfl (.inl lk_sc_1_value) nd_value nc_value) (xe_var (i := 2) rfl (.inl lk_sc_1_greatest) nd_greatest nc_greatest) (by rfl))))))
theorem bn_1 {K : PySem.W.Frag} {f : Addr} {fd : FuncData} (F : FunD K "is_within" "is_within" (defArgs (top 8)) (defBody (top 8)) (defScope (top 8)) [] [] f fd) : Binds K fd ["value", "least", "greatest"] [] := F.bindsN fun _ _ _ _ _ _ us hl => match us, hl with | [_, _, _], _ => rfl
theorem c_1 {P : Program} {w : World} {mg : Str → Option Value} {base : Heap} {W : Wd} (h : Wk P w mg base W) : Cal P w mg base 2 "is_within" 3 W f_is_within := by
  obtain ⟨fd, F⟩ := h.def_ 1 _ rfl
  exact ⟨_, fd, ["value", "least", "greatest"], rfl, fn_1 h F, h.x_1, F.kp, bn_1 F⟩
theorem fn_2 {P : Program} {w : World} {mg : Str → Option Value} {base : Heap} {W : Wd} (h : Wk P w mg base W) {fd : FuncData} (F : FunD W.K "is_cell" "is_cell" (defArgs (top 9)) (defBody (top 9)) (defScope (top 9)) [] [] (He.ga W.K "is_cell") fd) : FnG P w W.K mg base 3 (He.ga W.K "is_cell") fd ["value"] (spN W 1 f_is_cell) := by
  have hc_1 := c_1 h
  refine fn_ok (N := ["value"]) (d := d_is_cell) rfl F ⟨rfl, rfl, rfl, by decide +kernel, rfl, by decide +kernel, by decide +kernel⟩ (.refl _) fun cdv A outer s H E hr J2 => ?_
  exact (ys_one (ys_ret J2.toXJ (xe_call J2 (hc_1.mono (by decide)) hr lk_sc_2_is_within (xa_cons J2.toXJ (xe_var (i := 0) rfl (.inl lk_sc_2_value) nd_value nc_value) (xa_cons J2.toXJ xe_int (xa_cons J2.toXJ (xe_gint lk_sc_2_MAX_CELL h.g.MAX_CELL nd_MAX_CELL) xa_nil))) nd_is_within)))
theorem bn_2 {K : PySem.W.Frag} {f : Addr} {fd : FuncData} (F : FunD K "is_cell" "is_cell" (defArgs (top 9)) (defBody (top 9)) (defScope (top 9)) [] [] f fd) : Binds K fd ["value"] [] := F.bindsN fun _ _ _ _ _ _ us hl => match us, hl with | [_], _ => rfl
theorem c_2 {P : Program} {w : World} {mg : Str → Option Value} {base : Heap} {W : Wd} (h : Wk P w mg base W) : Cal P w mg base 3 "is_cell" 1 W f_is_cell := by
  obtain ⟨fd, F⟩ := h.def_ 2 _ rfl
  exact ⟨_, fd, ["value"], rfl, fn_2 h F, h.x_2, F.kp, bn_2 F⟩
theorem fn_3 {P : Program} {w : World} {mg : Str → Option Value} {base : Heap} {W : Wd} (h : Wk P w mg base W) {fd : FuncData} (F : FunD W.K "are_cells_in" "are_cells_in" (defArgs (top 10)) (defBody (top 10)) (defScope (top 10)) [] [] (He.ga W.K "are_cells_in") fd) : FnG P w W.K mg base 4 (He.ga W.K "are_cells_in") fd ["value", "least", "most"] (spN W 3 f_are_cells_in) := by
  have hc_2 := c_2 h
  refine fn_ok (N := ["value", "least", "most", "cell"]) (d := d_are_cells_in) rfl F ⟨rfl, rfl, rfl, by decide +kernel, rfl, by decide +kernel, by decide +kernel⟩ (.refl _) fun cdv A outer s H E hr J2 => ?_
  exact (ys_cons J2.toXJ (ys_if J2.toXJ (xw_or J2.toXJ (xt_not J2.toXJ (xt_val J2.toXJ (xe_isi (ty := .tuple) J2.toXJ lk_sc_3_isinstance h.g.b_isinstance lk_sc_3_tuple h.g.b_tuple bt_tuple (by decide) (xe_var (i := 0) rfl (.inl lk_sc_3_value) nd_value nc_value) nn_tuple nd_tuple))) (xw_or1 (xt_not J2.toXJ (xt_chain J2.toXJ op_leA op_leA ok_cmp ok_cmp (xe_var (i := 1) rfl (.inl lk_sc_3_least) nd_least nc_least) (xe_callB J2.toXJ call_len (by rw [← J2.toXJ.K]; exact ok_len) lk_sc_3_len h.g.b_len bt_len (xa_cons J2.toXJ (xe_var (i := 0) rfl (.inl lk_sc_3_value) nd_value nc_value) xa_nil) nn_len nd_len) (xe_var (i := 2) rfl (.inl lk_sc_3_most) nd_most nc_most) (by rfl))))).pt (ys_one (ys_ret J2.toXJ xe_bl)) ys_nil) (ys_one (ys_ret J2.toXJ (xe_callB J2.toXJ (cr_all J2.cm) (by rw [← J2.toXJ.K]; exact ok_bls) lk_sc_3_all h.g.b_all bt_all (xa_cons J2.toXJ (xc_lc J2  (xi_val J2.toXJ (xe_var (i := 0) rfl (.inl lk_sc_3_value) nd_value nc_value)) (own := [("cell", 3)]) (by kernel_rfl) (by rfl) (fun s H C cl fp B2 => (yg_nm (i := 3) B2.nd rfl (.inl (by kernel_rfl)) (.inr (by kernel_rfl)))) (fun s H C cl fp B2 => pts_yes) (fun s H C cl fp B2 => (xe_call B2 (hc_2.mono (by decide)) hr (gl_of (by kernel_rfl)) (xa_cons B2.toXJ (xe_var (i := 3) rfl (.inl (by kernel_rfl)) nd_cell nc_cell) xa_nil) nd_is_cell))) xa_nil) nn_all nd_all))))
theorem bn_3 {K : PySem.W.Frag} {f : Addr} {fd : FuncData} (F : FunD K "are_cells_in" "are_cells_in" (defArgs (top 10)) (defBody (top 10)) (defScope (top 10)) [] [] f fd) : Binds K fd ["value", "least", "most"] [] := F.bindsN fun _ _ _ _ _ _ us hl => match us, hl with | [_, _, _], _ => rfl
theorem c_3 {P : Program} {w : World} {mg : Str → Option Value} {base : Heap} {W : Wd} (h : Wk P w mg base W) : Cal P w mg base 4 "are_cells_in" 3 W f_are_cells_in := by
  obtain ⟨fd, F⟩ := h.def_ 3 _ rfl
  exact ⟨_, fd, ["value", "least", "most"], rfl, fn_3 h F, h.x_3, F.kp, bn_3 F⟩
theorem fn_4 {P : Program} {w : World} {mg : Str → Option Value} {base : Heap} {W : Wd} (h : Wk P w mg base W) {fd : FuncData} (F : FunD W.K "is_cells" "is_cells" (defArgs (top 11)) (defBody (top 11)) (defScope (top 11)) [] [] (He.ga W.K "is_cells") fd) : FnG P w W.K mg base 4 (He.ga W.K "is_cells") fd ["value"] (spN W 1 f_is_cells) := by
  have hc_2 := c_2 h
  refine fn_ok (N := ["value", "cell"]) (d := d_is_cells) rfl F ⟨rfl, rfl, rfl, by decide +kernel, rfl, by decide +kernel, by decide +kernel⟩ (.refl _) fun cdv A outer s H E hr J2 => ?_
  exact (ys_one (ys_ret J2.toXJ (xe_and J2.toXJ (xe_isi (ty := .tuple) J2.toXJ lk_sc_4_isinstance h.g.b_isinstance lk_sc_4_tuple h.g.b_tuple bt_tuple (by decide) (xe_var (i := 0) rfl (.inl lk_sc_4_value) nd_value nc_value) nn_tuple nd_tuple) (xe_one (xe_callB J2.toXJ (cr_all J2.cm) (by rw [← J2.toXJ.K]; exact ok_bls) lk_sc_4_all h.g.b_all bt_all (xa_cons J2.toXJ (xc_lc J2  (xi_val J2.toXJ (xe_var (i := 0) rfl (.inl lk_sc_4_value) nd_value nc_value)) (own := [("cell", 1)]) (by kernel_rfl) (by rfl) (fun s H C cl fp B2 => (yg_nm (i := 1) B2.nd rfl (.inl (by kernel_rfl)) (.inr (by kernel_rfl)))) (fun s H C cl fp B2 => pts_yes) (fun s H C cl fp B2 => (xe_call B2 (hc_2.mono (by decide)) hr (gl_of (by kernel_rfl)) (xa_cons B2.toXJ (xe_var (i := 1) rfl (.inl (by kernel_rfl)) nd_cell nc_cell) xa_nil) nd_is_cell))) xa_nil) nn_all nd_all)))))
theorem bn_4 {K : PySem.W.Frag} {f : Addr} {fd : FuncData} (F : FunD K "is_cells" "is_cells" (defArgs (top 11)) (defBody (top 11)) (defScope (top 11)) [] [] f fd) : Binds K fd ["value"] [] := F.bindsN fun _ _ _ _ _ _ us hl => match us, hl with | [_], _ => rfl
theorem c_4 {P : Program} {w : World} {mg : Str → Option Value} {base : Heap} {W : Wd} (h : Wk P w mg base W) : Cal P w mg base 4 "is_cells" 1 W f_is_cells := by
  obtain ⟨fd, F⟩ := h.def_ 4 _ rfl
  exact ⟨_, fd, ["value"], rfl, fn_4 h F, h.x_4, F.kp, bn_4 F⟩
theorem fn_5 {P : Program} {w : World} {mg : Str → Option Value} {base : Heap} {W : Wd} (h : Wk P w mg base W) {fd : FuncData} (F : FunD W.K "text_in" "text_in" (defArgs (top 23)) (defBody (top 23)) (defScope (top 23)) [] [] (He.ga W.K "text_in") fd) : FnG P w W.K mg base 1 (He.ga W.K "text_in") fd ["cells"] (spN W 1 f_text_in) := by
  refine fn_ok (N := ["cells", "cell"]) (d := d_text_in) rfl F ⟨rfl, rfl, rfl, by decide +kernel, rfl, by decide +kernel, by decide +kernel⟩ (.refl _) fun cdv A outer s H E hr J2 => ?_
  exact (ys_one (ys_ret J2.toXJ (xe_met J2.toXJ PySem.F.plainAttrs_str PySem.F.slot_str_join PySem.F.type_str_join mt_join ty_str (by rw [← J2.toXJ.K]; exact ok_join) (xe_str (by kernel_rfl)) (xa_cons J2.toXJ (xc_lc J2  (xi_val J2.toXJ (xe_var (i := 0) rfl (.inl lk_sc_5_cells) nd_cells nc_cells)) (own := [("cell", 1)]) (by kernel_rfl) (by rfl) (fun s H C cl fp B2 => (yg_nm (i := 1) B2.nd rfl (.inl (by kernel_rfl)) (.inr (by kernel_rfl)))) (fun s H C cl fp B2 => pts_yes) (fun s H C cl fp B2 => (xe_js1 (xe_fmt B2.toXJ (xe_var (i := 1) rfl (.inl (by kernel_rfl)) nd_cell nc_cell) (xe_spec (by kernel_rfl)))))) xa_nil))))
theorem bn_5 {K : PySem.W.Frag} {f : Addr} {fd : FuncData} (F : FunD K "text_in" "text_in" (defArgs (top 23)) (defBody (top 23)) (defScope (top 23)) [] [] f fd) : Binds K fd ["cells"] [] := F.bindsN fun _ _ _ _ _ _ us hl => match us, hl with | [_], _ => rfl
theorem c_5 {P : Program} {w : World} {mg : Str → Option Value} {base : Heap} {W : Wd} (h : Wk P w mg base W) : Cal P w mg base 1 "text_in" 1 W f_text_in := by
  obtain ⟨fd, F⟩ := h.def_ 5 _ rfl
  exact ⟨_, fd, ["cells"], rfl, fn_5 h F, h.x_5, F.kp, bn_5 F⟩
theorem fn_6 {P : Program} {w : World} {mg : Str → Option Value} {base : Heap} {W : Wd} (h : Wk P w mg base W) {fd : FuncData} (F : FunD W.K "cells_told" "cells_told" (defArgs (top 24)) (defBody (top 24)) (defScope (top 24)) [] [] (He.ga W.K "cells_told") fd) : FnG P w W.K mg base 1 (He.ga W.K "cells_told") fd ["text"] (spN W 1 f_cells_told) := by
  refine fn_ok (N := ["text", "cells", "sign", "at", "cell"]) (d := d_cells_told) rfl F ⟨rfl, rfl, rfl, by decide +kernel, rfl, by decide +kernel, by decide +kernel⟩ (r_cells_told) fun cdv A outer s H E hr J2 => ?_
  exact (ys_cons J2.toXJ (ys_if J2.toXJ (xw_or J2.toXJ (xt_cmp J2.toXJ (op_neA hr.units) (by rw [← J2.toXJ.K]; exact ok_ne) (xe_bin J2.toXJ op_mod ok_mod (xe_callB J2.toXJ call_len (by rw [← J2.toXJ.K]; exact ok_len) lk_sc_6_len h.g.b_len bt_len (xa_cons J2.toXJ (xe_var (i := 0) rfl (.inr (.inl lk_sc_6_text)) nd_text nc_text) xa_nil) nn_len nd_len) (xe_gint lk_sc_6_DIGITS h.g.DIGITS nd_DIGITS)) xe_int (nomark _)) (xw_or1 (xt_not J2.toXJ (xt_val J2.toXJ (xe_callB J2.toXJ (cr_all J2.cm) (by rw [← J2.toXJ.K]; exact ok_bls) lk_sc_6_all h.g.b_all bt_all (xa_cons J2.toXJ (xc_lc J2  (xi_val J2.toXJ (xe_var (i := 0) rfl (.inr (.inl lk_sc_6_text)) nd_text nc_text)) (own := [("sign", 2)]) (by kernel_rfl) (by rfl) (fun s H C cl fp B2 => (yg_nm (i := 2) B2.nd rfl (.inl (by kernel_rfl)) (.inr (by kernel_rfl)))) (fun s H C cl fp B2 => pts_yes) (fun s H C cl fp B2 => (xe_cmp B2.toXJ (op_inK (u65 hr)) (by rw [← B2.toXJ.K]; exact ok_inK) (xe_var (i := 2) rfl (.inl (by kernel_rfl)) nd_sign nc_sign) (xe_gstr (by kernel_rfl) (gl_of (by kernel_rfl)) h.g.FIGURES nd_FIGURES) (by with_unfolding_all rfl)))) xa_nil) nn_all nd_all))))).pt (ys_one (ys_ret J2.toXJ xe_non)) ys_nil) (ys_cons J2.toXJ (ys_set (i := 1) J2.toXJ J2.nd rfl (.inl lk_sc_6_cells) (xe_callTy J2.toXJ call_tuple_of (by rw [← J2.toXJ.K]; exact ok_tupleA) lk_sc_6_tuple h.g.b_tuple bt_tuple (xa_cons J2.toXJ (xc_lc J2  (xi_rng3 J2.toXJ lk_sc_6_range h.g.b_range (xa_cons J2.toXJ xe_int (xa_cons J2.toXJ (xe_callB J2.toXJ call_len (by rw [← J2.toXJ.K]; exact ok_len) lk_sc_6_len h.g.b_len bt_len (xa_cons J2.toXJ (xe_var (i := 0) rfl (.inr (.inl lk_sc_6_text)) nd_text nc_text) xa_nil) nn_len nd_len) (xa_cons J2.toXJ (xe_gint lk_sc_6_DIGITS h.g.DIGITS nd_DIGITS) xa_nil)))) (own := [("at", 3)]) (by kernel_rfl) (by rfl) (fun s H C cl fp B2 => (yg_nm (i := 3) B2.nd rfl (.inl (by kernel_rfl)) (.inr (by kernel_rfl)))) (fun s H C cl fp B2 => pts_yes) (fun s H C cl fp B2 => (xe_callTy B2.toXJ call_intX ok_intX (gl_of (by kernel_rfl)) h.g.b_int bt_int (xa_cons B2.toXJ (xe_sl B2.toXJ (xe_var (i := 0) rfl (.inr (.inl (by kernel_rfl))) nd_text nc_text) (xo_some B2.toXJ (xe_var (i := 3) rfl (.inl (by kernel_rfl)) nd_at nc_at)) (xo_some B2.toXJ (xe_bin B2.toXJ op_addA (by rw [← B2.toXJ.K]; exact ok_add) (xe_var (i := 3) rfl (.inl (by kernel_rfl)) nd_at nc_at) (xe_gint (gl_of (by kernel_rfl)) h.g.DIGITS nd_DIGITS)))) xa_nil) nn_int nd_int))) xa_nil) nn_tuple nd_tuple) (by rfl) (.inl rfl)) (ys_one (ys_ret J2.toXJ (xe_if J2.toXJ (xt_val J2.toXJ (xe_callB J2.toXJ (cr_all J2.cm) (by rw [← J2.toXJ.K]; exact ok_bls) lk_sc_6_all h.g.b_all bt_all (xa_cons J2.toXJ (xc_lc J2  (xi_val J2.toXJ (xe_var (i := 1) rfl (.inl lk_sc_6_cells) nd_cells nc_cells)) (own := [("cell", 4)]) (by kernel_rfl) (by rfl) (fun s H C cl fp B2 => (yg_nm (i := 4) B2.nd rfl (.inl (by kernel_rfl)) (.inr (by kernel_rfl)))) (fun s H C cl fp B2 => pts_yes) (fun s H C cl fp B2 => (xe_cmp B2.toXJ op_ltA ok_cmp (xe_var (i := 4) rfl (.inl (by kernel_rfl)) nd_cell nc_cell) (xe_gint (gl_of (by kernel_rfl)) h.g.PRIME nd_PRIME) (nomark _)))) xa_nil) nn_all nd_all)) (xe_var (i := 1) rfl (.inl lk_sc_6_cells) nd_cells nc_cells) xe_non)))))
theorem bn_6 {K : PySem.W.Frag} {f : Addr} {fd : FuncData} (F : FunD K "cells_told" "cells_told" (defArgs (top 24)) (defBody (top 24)) (defScope (top 24)) [] [] f fd) : Binds K fd ["text"] [] := F.bindsN fun _ _ _ _ _ _ us hl => match us, hl with | [_], _ => rfl
theorem c_6 {P : Program} {w : World} {mg : Str → Option Value} {base : Heap} {W : Wd} (h : Wk P w mg base W) : Cal P w mg base 1 "cells_told" 1 W f_cells_told := by
  obtain ⟨fd, F⟩ := h.def_ 6 _ rfl
  exact ⟨_, fd, ["text"], rfl, fn_6 h F, h.x_6, F.kp, bn_6 F⟩
theorem fn_7 {P : Program} {w : World} {mg : Str → Option Value} {base : Heap} {W : Wd} (h : Wk P w mg base W) {fd : FuncData} (F : FunD W.K "window_at" "window_at" (defArgs (top 25)) (defBody (top 25)) (defScope (top 25)) [] [] (He.ga W.K "window_at") fd) : FnG P w W.K mg base 2 (He.ga W.K "window_at") fd ["text", "place"] (spN W 2 f_window_at) := by
  have hc_6 := c_6 h
  refine fn_ok (N := ["text", "place", "window"]) (d := d_window_at) rfl F ⟨rfl, rfl, rfl, by decide +kernel, rfl, by decide +kernel, by decide +kernel⟩ (r_window_at) fun cdv A outer s H E hr J2 => ?_
  exact (ys_cons J2.toXJ (ys_set (i := 2) J2.toXJ J2.nd rfl (.inl lk_sc_7_window) (xe_sl J2.toXJ (xe_var (i := 0) rfl (.inl lk_sc_7_text) nd_text nc_text) (xo_some J2.toXJ (xe_var (i := 1) rfl (.inl lk_sc_7_place) nd_place nc_place)) (xo_some J2.toXJ (xe_bin J2.toXJ op_addA (by rw [← J2.toXJ.K]; exact ok_add) (xe_var (i := 1) rfl (.inl lk_sc_7_place) nd_place nc_place) (xe_gint lk_sc_7_WINDOW_SIGNS h.g.WINDOW_SIGNS nd_WINDOW_SIGNS)))) (by rfl) (.inl rfl)) (ys_cons J2.toXJ (ys_if J2.toXJ (xw_or J2.toXJ (xt_cmp J2.toXJ op_ltA ok_cmp (xe_callB J2.toXJ call_len (by rw [← J2.toXJ.K]; exact ok_len) lk_sc_7_len h.g.b_len bt_len (xa_cons J2.toXJ (xe_var (i := 2) rfl (.inl lk_sc_7_window) nd_window nc_window) xa_nil) nn_len nd_len) (xe_gint lk_sc_7_WINDOW_SIGNS h.g.WINDOW_SIGNS nd_WINDOW_SIGNS) (nomark _)) (xw_or J2.toXJ (xt_cmp J2.toXJ (op_neA hr.units) (by rw [← J2.toXJ.K]; exact ok_ne) (xe_ix J2.toXJ (xe_var (i := 2) rfl (.inl lk_sc_7_window) nd_window nc_window) xe_int) (xe_gstr (by kernel_rfl) lk_sc_7_BEGIN h.g.BEGIN nd_BEGIN) (nomark _)) (xw_or1 (xt_cmp J2.toXJ (op_neA hr.units) (by rw [← J2.toXJ.K]; exact ok_ne) (xe_ix J2.toXJ (xe_var (i := 2) rfl (.inl lk_sc_7_window) nd_window nc_window) (xe_un J2.toXJ un_neg ok_neg xe_int)) (xe_gstr (by kernel_rfl) lk_sc_7_END h.g.END nd_END) (nomark _))))).pt (ys_one (ys_ret J2.toXJ xe_non)) ys_nil) (ys_one (ys_ret J2.toXJ (xe_call J2 (hc_6.mono (by decide)) hr lk_sc_7_cells_told (xa_cons J2.toXJ (xe_sl J2.toXJ (xe_var (i := 2) rfl (.inl lk_sc_7_window) nd_window nc_window) (xo_some J2.toXJ xe_int) (xo_some J2.toXJ (xe_un J2.toXJ un_neg ok_neg xe_int))) xa_nil) nd_cells_told)))))
theorem bn_7 {K : PySem.W.Frag} {f : Addr} {fd : FuncData} (F : FunD K "window_at" "window_at" (defArgs (top 25)) (defBody (top 25)) (defScope (top 25)) [] [] f fd) : Binds K fd ["text", "place"] [] := F.bindsN fun _ _ _ _ _ _ us hl => match us, hl with | [_, _], _ => rfl
theorem c_7 {P : Program} {w : World} {mg : Str → Option Value} {base : Heap} {W : Wd} (h : Wk P w mg base W) : Cal P w mg base 2 "window_at" 2 W f_window_at := by
  obtain ⟨fd, F⟩ := h.def_ 7 _ rfl
  exact ⟨_, fd, ["text", "place"], rfl, fn_7 h F, h.x_7, F.kp, bn_7 F⟩
theorem fn_8 {P : Program} {w : World} {mg : Str → Option Value} {base : Heap} {W : Wd} (h : Wk P w mg base W) {fd : FuncData} (F : FunD W.K "is_text" "is_text" (defArgs (top 26)) (defBody (top 26)) (defScope (top 26)) [] [] (He.ga W.K "is_text") fd) : FnG P w W.K mg base 1 (He.ga W.K "is_text") fd ["value"] (spN W 1 f_is_text) := by
  refine fn_ok (N := ["value", "sign"]) (d := d_is_text) rfl F ⟨rfl, rfl, rfl, by decide +kernel, rfl, by decide +kernel, by decide +kernel⟩ (r_is_text) fun cdv A outer s H E hr J2 => ?_
  exact (ys_cons J2.toXJ (ys_if J2.toXJ (xw_or J2.toXJ (xt_not J2.toXJ (xt_val J2.toXJ (xe_isi (ty := .str) J2.toXJ lk_sc_8_isinstance h.g.b_isinstance lk_sc_8_str h.g.b_str bt_str (by decide) (xe_var (i := 0) rfl (.inl lk_sc_8_value) nd_value nc_value) nn_str nd_str))) (xw_or1 (xt_cmp J2.toXJ op_gtA ok_cmp (xe_callB J2.toXJ call_len (by rw [← J2.toXJ.K]; exact ok_len) lk_sc_8_len h.g.b_len bt_len (xa_cons J2.toXJ (xe_var (i := 0) rfl (.inl lk_sc_8_value) nd_value nc_value) xa_nil) nn_len nd_len) (xe_gint lk_sc_8_MOST_SIGNS h.g.MOST_SIGNS nd_MOST_SIGNS) (nomark _)))).pt (ys_one (ys_ret J2.toXJ xe_bl)) ys_nil) (ys_one (ys_ret J2.toXJ (xe_callB J2.toXJ (cr_all J2.cm) (by rw [← J2.toXJ.K]; exact ok_bls) lk_sc_8_all h.g.b_all bt_all (xa_cons J2.toXJ (xc_lc J2  (xi_val J2.toXJ (xe_var (i := 0) rfl (.inl lk_sc_8_value) nd_value nc_value)) (own := [("sign", 1)]) (by kernel_rfl) (by rfl) (fun s H C cl fp B2 => (yg_nm (i := 1) B2.nd rfl (.inl (by kernel_rfl)) (.inr (by kernel_rfl)))) (fun s H C cl fp B2 => pts_yes) (fun s H C cl fp B2 => (xe_chain B2.toXJ op_leA op_leA ok_cmp ok_cmp (xe_gstr (by kernel_rfl) (gl_of (by kernel_rfl)) h.g.LEAST_SIGN nd_LEAST_SIGN) (xe_var (i := 1) rfl (.inl (by kernel_rfl)) nd_sign nc_sign) (xe_gstr (by kernel_rfl) (gl_of (by kernel_rfl)) h.g.GREATEST_SIGN nd_GREATEST_SIGN) (by rfl)))) xa_nil) nn_all nd_all))))
theorem bn_8 {K : PySem.W.Frag} {f : Addr} {fd : FuncData} (F : FunD K "is_text" "is_text" (defArgs (top 26)) (defBody (top 26)) (defScope (top 26)) [] [] f fd) : Binds K fd ["value"] [] := F.bindsN fun _ _ _ _ _ _ us hl => match us, hl with | [_], _ => rfl
theorem c_8 {P : Program} {w : World} {mg : Str → Option Value} {base : Heap} {W : Wd} (h : Wk P w mg base W) : Cal P w mg base 1 "is_text" 1 W f_is_text := by
  obtain ⟨fd, F⟩ := h.def_ 8 _ rfl
  exact ⟨_, fd, ["value"], rfl, fn_8 h F, h.x_8, F.kp, bn_8 F⟩
theorem fn_9 {P : Program} {w : World} {mg : Str → Option Value} {base : Heap} {W : Wd} (h : Wk P w mg base W) {fd : FuncData} (F : FunD W.K "require_text" "require_text" (defArgs (top 27)) (defBody (top 27)) (defScope (top 27)) [] [] (He.ga W.K "require_text") fd) : FnG P w W.K mg base 2 (He.ga W.K "require_text") fd ["value"] (spN W 1 f_require_text) := by
  have hc_8 := c_8 h
  refine fn_ok (N := ["value"]) (d := d_require_text) rfl F ⟨rfl, rfl, rfl, by decide +kernel, rfl, by decide +kernel, by decide +kernel⟩ (r_require_text) fun cdv A outer s H E hr J2 => ?_
  exact (ys_one (ys_if J2.toXJ (xt_not J2.toXJ (xt_val J2.toXJ (xe_call J2 (hc_8.mono (by decide)) hr lk_sc_9_is_text (xa_cons J2.toXJ (xe_var (i := 0) rfl (.inl lk_sc_9_value) nd_value nc_value) xa_nil) nd_is_text))) (ys_one ys_never) ys_nil))
theorem bn_9 {K : PySem.W.Frag} {f : Addr} {fd : FuncData} (F : FunD K "require_text" "require_text" (defArgs (top 27)) (defBody (top 27)) (defScope (top 27)) [] [] f fd) : Binds K fd ["value"] [] := F.bindsN fun _ _ _ _ _ _ us hl => match us, hl with | [_], _ => rfl
theorem c_9 {P : Program} {w : World} {mg : Str → Option Value} {base : Heap} {W : Wd} (h : Wk P w mg base W) : Cal P w mg base 2 "require_text" 1 W f_require_text := by
  obtain ⟨fd, F⟩ := h.def_ 9 _ rfl
  exact ⟨_, fd, ["value"], rfl, fn_9 h F, h.x_9, F.kp, bn_9 F⟩
theorem fn_10 {P : Program} {w : World} {mg : Str → Option Value} {base : Heap} {W : Wd} (h : Wk P w mg base W) {fd : FuncData} (F : FunD W.K "is_window" "is_window" (defArgs (top 28)) (defBody (top 28)) (defScope (top 28)) [] [] (He.ga W.K "is_window") fd) : FnG P w W.K mg base 3 (He.ga W.K "is_window") fd ["value"] (spN W 1 f_is_window) := by
  have hc_7 := c_7 h
  refine fn_ok (N := ["value"]) (d := d_is_window) rfl F ⟨rfl, rfl, rfl, by decide +kernel, rfl, by decide +kernel, by decide +kernel⟩ (r_is_window) fun cdv A outer s H E hr J2 => ?_
  exact (ys_one (ys_ret J2.toXJ (xe_and J2.toXJ (xe_isi (ty := .str) J2.toXJ lk_sc_10_isinstance h.g.b_isinstance lk_sc_10_str h.g.b_str bt_str (by decide) (xe_var (i := 0) rfl (.inl lk_sc_10_value) nd_value nc_value) nn_str nd_str) (xe_and J2.toXJ (xe_cmp J2.toXJ (op_eqA hr.units) (by rw [← J2.toXJ.K]; exact ok_eq) (xe_callB J2.toXJ call_len (by rw [← J2.toXJ.K]; exact ok_len) lk_sc_10_len h.g.b_len bt_len (xa_cons J2.toXJ (xe_var (i := 0) rfl (.inl lk_sc_10_value) nd_value nc_value) xa_nil) nn_len nd_len) (xe_gint lk_sc_10_WINDOW_SIGNS h.g.WINDOW_SIGNS nd_WINDOW_SIGNS) (nomark _)) (xe_one (xe_cmp J2.toXJ op_notN ok_notN (xe_call J2 (hc_7.mono (by decide)) hr lk_sc_10_window_at (xa_cons J2.toXJ (xe_var (i := 0) rfl (.inl lk_sc_10_value) nd_value nc_value) (xa_cons J2.toXJ xe_int xa_nil)) nd_window_at) xe_non (nomark _)))))))
theorem bn_10 {K : PySem.W.Frag} {f : Addr} {fd : FuncData} (F : FunD K "is_window" "is_window" (defArgs (top 28)) (defBody (top 28)) (defScope (top 28)) [] [] f fd) : Binds K fd ["value"] [] := F.bindsN fun _ _ _ _ _ _ us hl => match us, hl with | [_], _ => rfl
theorem c_10 {P : Program} {w : World} {mg : Str → Option Value} {base : Heap} {W : Wd} (h : Wk P w mg base W) : Cal P w mg base 3 "is_window" 1 W f_is_window := by
  obtain ⟨fd, F⟩ := h.def_ 10 _ rfl
  exact ⟨_, fd, ["value"], rfl, fn_10 h F, h.x_10, F.kp, bn_10 F⟩
theorem fn_11 {P : Program} {w : World} {mg : Str → Option Value} {base : Heap} {W : Wd} (h : Wk P w mg base W) {fd : FuncData} (F : FunD W.K "cells_text" "cells_text" (defArgs (top 29)) (defBody (top 29)) (defScope (top 29)) [] [] (He.ga W.K "cells_text") fd) : FnG P w W.K mg base 5 (He.ga W.K "cells_text") fd ["cells"] (spN W 1 f_cells_text) := by
  have hc_4 := c_4 h
  have hc_5 := c_5 h
  refine fn_ok (N := ["cells"]) (d := d_cells_text) rfl F ⟨rfl, rfl, rfl, by decide +kernel, rfl, by decide +kernel, by decide +kernel⟩ (r_cells_text) fun cdv A outer s H E hr J2 => ?_
  exact (ys_cons J2.toXJ (ys_if J2.toXJ (xw_or J2.toXJ (xt_not J2.toXJ (xt_val J2.toXJ (xe_call J2 (hc_4.mono (by decide)) hr lk_sc_11_is_cells (xa_cons J2.toXJ (xe_var (i := 0) rfl (.inl lk_sc_11_cells) nd_cells nc_cells) xa_nil) nd_is_cells))) (xw_or1 (xt_cmp J2.toXJ op_gtA ok_cmp (xe_callB J2.toXJ call_len (by rw [← J2.toXJ.K]; exact ok_len) lk_sc_11_len h.g.b_len bt_len (xa_cons J2.toXJ (xe_var (i := 0) rfl (.inl lk_sc_11_cells) nd_cells nc_cells) xa_nil) nn_len nd_len) (xe_gint lk_sc_11_MOST_DIGITS h.g.MOST_DIGITS nd_MOST_DIGITS) (nomark _)))).pt (ys_one ys_never) ys_nil) (ys_one (ys_ret J2.toXJ (xe_call J2 (hc_5.mono (by decide)) hr lk_sc_11_text_in (xa_cons J2.toXJ (xe_var (i := 0) rfl (.inl lk_sc_11_cells) nd_cells nc_cells) xa_nil) nd_text_in))))
theorem bn_11 {K : PySem.W.Frag} {f : Addr} {fd : FuncData} (F : FunD K "cells_text" "cells_text" (defArgs (top 29)) (defBody (top 29)) (defScope (top 29)) [] [] f fd) : Binds K fd ["cells"] [] := F.bindsN fun _ _ _ _ _ _ us hl => match us, hl with | [_], _ => rfl
theorem c_11 {P : Program} {w : World} {mg : Str → Option Value} {base : Heap} {W : Wd} (h : Wk P w mg base W) : Cal P w mg base 5 "cells_text" 1 W f_cells_text := by
  obtain ⟨fd, F⟩ := h.def_ 11 _ rfl
  exact ⟨_, fd, ["cells"], rfl, fn_11 h F, h.x_11, F.kp, bn_11 F⟩
theorem fn_12 {P : Program} {w : World} {mg : Str → Option Value} {base : Heap} {W : Wd} (h : Wk P w mg base W) {fd : FuncData} (F : FunD W.K "told_cells" "told_cells" (defArgs (top 30)) (defBody (top 30)) (defScope (top 30)) [] [] (He.ga W.K "told_cells") fd) : FnG P w W.K mg base 3 (He.ga W.K "told_cells") fd ["text"] (spN W 1 f_told_cells) := by
  have hc_6 := c_6 h
  have hc_9 := c_9 h
  refine fn_ok (N := ["text"]) (d := d_told_cells) rfl F ⟨rfl, rfl, rfl, by decide +kernel, rfl, by decide +kernel, by decide +kernel⟩ (.refl _) fun cdv A outer s H E hr J2 => ?_
  exact (ys_cons J2.toXJ (ys_expr J2.toXJ (xe_call J2 (hc_9.mono (by decide)) hr lk_sc_12_require_text (xa_cons J2.toXJ (xe_var (i := 0) rfl (.inl lk_sc_12_text) nd_text nc_text) xa_nil) nd_require_text)) (ys_one (ys_ret J2.toXJ (xe_call J2 (hc_6.mono (by decide)) hr lk_sc_12_cells_told (xa_cons J2.toXJ (xe_var (i := 0) rfl (.inl lk_sc_12_text) nd_text nc_text) xa_nil) nd_cells_told))))
theorem bn_12 {K : PySem.W.Frag} {f : Addr} {fd : FuncData} (F : FunD K "told_cells" "told_cells" (defArgs (top 30)) (defBody (top 30)) (defScope (top 30)) [] [] f fd) : Binds K fd ["text"] [] := F.bindsN fun _ _ _ _ _ _ us hl => match us, hl with | [_], _ => rfl
theorem c_12 {P : Program} {w : World} {mg : Str → Option Value} {base : Heap} {W : Wd} (h : Wk P w mg base W) : Cal P w mg base 3 "told_cells" 1 W f_told_cells := by
  obtain ⟨fd, F⟩ := h.def_ 12 _ rfl
  exact ⟨_, fd, ["text"], rfl, fn_12 h F, h.x_12, F.kp, bn_12 F⟩
theorem fn_13 {P : Program} {w : World} {mg : Str → Option Value} {base : Heap} {W : Wd} (h : Wk P w mg base W) {fd : FuncData} (F : FunD W.K "window_text" "window_text" (defArgs (top 31)) (defBody (top 31)) (defScope (top 31)) [] [] (He.ga W.K "window_text") fd) : FnG P w W.K mg base 5 (He.ga W.K "window_text") fd ["cells"] (spN W 1 f_window_text) := by
  have hc_3 := c_3 h
  have hc_5 := c_5 h
  refine fn_ok (N := ["cells"]) (d := d_window_text) rfl F ⟨rfl, rfl, rfl, by decide +kernel, rfl, by decide +kernel, by decide +kernel⟩ (r_window_text) fun cdv A outer s H E hr J2 => ?_
  exact (ys_cons J2.toXJ (ys_if J2.toXJ (xt_not J2.toXJ (xt_val J2.toXJ (xe_call J2 (hc_3.mono (by decide)) hr lk_sc_13_are_cells_in (xa_cons J2.toXJ (xe_var (i := 0) rfl (.inl lk_sc_13_cells) nd_cells nc_cells) (xa_cons J2.toXJ (xe_gint lk_sc_13_WINDOW_CELLS h.g.WINDOW_CELLS nd_WINDOW_CELLS) (xa_cons J2.toXJ (xe_gint lk_sc_13_WINDOW_CELLS h.g.WINDOW_CELLS nd_WINDOW_CELLS) xa_nil))) nd_are_cells_in))) (ys_one ys_never) ys_nil) (ys_one (ys_ret J2.toXJ (xe_bin J2.toXJ op_addA (by rw [← J2.toXJ.K]; exact ok_add) (xe_bin J2.toXJ op_addA (by rw [← J2.toXJ.K]; exact ok_add) (xe_gstr (by kernel_rfl) lk_sc_13_BEGIN h.g.BEGIN nd_BEGIN) (xe_call J2 (hc_5.mono (by decide)) hr lk_sc_13_text_in (xa_cons J2.toXJ (xe_var (i := 0) rfl (.inl lk_sc_13_cells) nd_cells nc_cells) xa_nil) nd_text_in)) (xe_gstr (by kernel_rfl) lk_sc_13_END h.g.END nd_END)))))
theorem bn_13 {K : PySem.W.Frag} {f : Addr} {fd : FuncData} (F : FunD K "window_text" "window_text" (defArgs (top 31)) (defBody (top 31)) (defScope (top 31)) [] [] f fd) : Binds K fd ["cells"] [] := F.bindsN fun _ _ _ _ _ _ us hl => match us, hl with | [_], _ => rfl
theorem c_13 {P : Program} {w : World} {mg : Str → Option Value} {base : Heap} {W : Wd} (h : Wk P w mg base W) : Cal P w mg base 5 "window_text" 1 W f_window_text := by
  obtain ⟨fd, F⟩ := h.def_ 13 _ rfl
  exact ⟨_, fd, ["cells"], rfl, fn_13 h F, h.x_13, F.kp, bn_13 F⟩
theorem fn_14 {P : Program} {w : World} {mg : Str → Option Value} {base : Heap} {W : Wd} (h : Wk P w mg base W) {fd : FuncData} (F : FunD W.K "window_cells" "window_cells" (defArgs (top 32)) (defBody (top 32)) (defScope (top 32)) [] [] (He.ga W.K "window_cells") fd) : FnG P w W.K mg base 3 (He.ga W.K "window_cells") fd ["text"] (spN W 1 f_window_cells) := by
  have hc_7 := c_7 h
  have hc_9 := c_9 h
  refine fn_ok (N := ["text"]) (d := d_window_cells) rfl F ⟨rfl, rfl, rfl, by decide +kernel, rfl, by decide +kernel, by decide +kernel⟩ (r_window_cells) fun cdv A outer s H E hr J2 => ?_
  exact (ys_cons J2.toXJ (ys_expr J2.toXJ (xe_call J2 (hc_9.mono (by decide)) hr lk_sc_14_require_text (xa_cons J2.toXJ (xe_var (i := 0) rfl (.inl lk_sc_14_text) nd_text nc_text) xa_nil) nd_require_text)) (ys_one (ys_ret J2.toXJ (xe_if J2.toXJ (xt_cmp J2.toXJ (op_eqA hr.units) (by rw [← J2.toXJ.K]; exact ok_eq) (xe_callB J2.toXJ call_len (by rw [← J2.toXJ.K]; exact ok_len) lk_sc_14_len h.g.b_len bt_len (xa_cons J2.toXJ (xe_var (i := 0) rfl (.inl lk_sc_14_text) nd_text nc_text) xa_nil) nn_len nd_len) (xe_gint lk_sc_14_WINDOW_SIGNS h.g.WINDOW_SIGNS nd_WINDOW_SIGNS) (nomark _)) (xe_call J2 (hc_7.mono (by decide)) hr lk_sc_14_window_at (xa_cons J2.toXJ (xe_var (i := 0) rfl (.inl lk_sc_14_text) nd_text nc_text) (xa_cons J2.toXJ xe_int xa_nil)) nd_window_at) xe_non))))
theorem bn_14 {K : PySem.W.Frag} {f : Addr} {fd : FuncData} (F : FunD K "window_cells" "window_cells" (defArgs (top 32)) (defBody (top 32)) (defScope (top 32)) [] [] f fd) : Binds K fd ["text"] [] := F.bindsN fun _ _ _ _ _ _ us hl => match us, hl with | [_], _ => rfl
theorem c_14 {P : Program} {w : World} {mg : Str → Option Value} {base : Heap} {W : Wd} (h : Wk P w mg base W) : Cal P w mg base 3 "window_cells" 1 W f_window_cells := by
  obtain ⟨fd, F⟩ := h.def_ 14 _ rfl
  exact ⟨_, fd, ["text"], rfl, fn_14 h F, h.x_14, F.kp, bn_14 F⟩
theorem fn_15 {P : Program} {w : World} {mg : Str → Option Value} {base : Heap} {W : Wd} (h : Wk P w mg base W) {fd : FuncData} (F : FunD W.K "_law_tray" "_law_tray" (defArgs (top 34)) (defBody (top 34)) (defScope (top 34)) [] [] (He.ga W.K "_law_tray") fd) : FnG P w W.K mg base 1 (He.ga W.K "_law_tray") fd ["_law_script", "_law_spot"] (spN W 2 f__law_tray) := by
  refine fn_ok (N := ["_law_script", "_law_spot", "_law_cell", "_law_great"]) (d := d__law_tray) rfl F ⟨rfl, rfl, rfl, by decide +kernel, rfl, by decide +kernel, by decide +kernel⟩ (.refl _) fun cdv A outer s H E hr J2 => ?_
  exact (ys_cons J2.toXJ (ys_set (i := 2) J2.toXJ J2.nd rfl (.inl lk_sc_15__law_cell) (xe_if J2.toXJ (xt_cmp J2.toXJ op_ltA ok_cmp (xe_var (i := 1) rfl (.inl lk_sc_15__law_spot) nd__law_spot nc__law_spot) (xe_callB J2.toXJ call_len (by rw [← J2.toXJ.K]; exact ok_len) lk_sc_15_len h.g.b_len bt_len (xa_cons J2.toXJ (xe_var (i := 0) rfl (.inl lk_sc_15__law_script) nd__law_script nc__law_script) xa_nil) nn_len nd_len) (nomark _)) (xe_callTy J2.toXJ call_intX ok_intX lk_sc_15_int h.g.b_int bt_int (xa_cons J2.toXJ (xe_ix J2.toXJ (xe_var (i := 0) rfl (.inl lk_sc_15__law_script) nd__law_script nc__law_script) (xe_var (i := 1) rfl (.inl lk_sc_15__law_spot) nd__law_spot nc__law_spot)) xa_nil) nn_int nd_int) (xe_bin J2.toXJ op_addA (by rw [← J2.toXJ.K]; exact ok_add) (xe_bin J2.toXJ op_mulA (by rw [← J2.toXJ.K]; exact ok_mul) xe_int (xe_var (i := 1) rfl (.inl lk_sc_15__law_spot) nd__law_spot nc__law_spot)) xe_int)) (by rfl) (.inl rfl)) (ys_cons J2.toXJ (ys_set (i := 3) J2.toXJ J2.nd rfl (.inl lk_sc_15__law_great) (xe_bin J2.toXJ op_mod ok_mod (xe_callTy J2.toXJ call_intX ok_intX lk_sc_15_int h.g.b_int bt_int (xa_cons J2.toXJ (xe_callB J2.toXJ call_abs ok_int1 lk_sc_15_abs h.g.b_abs bt_abs (xa_cons J2.toXJ (xe_var (i := 2) rfl (.inl lk_sc_15__law_cell) nd__law_cell nc__law_cell) xa_nil) nn_abs nd_abs) xa_nil) nn_int nd_int) (xe_bin J2.toXJ op_powB ok_pow (xe_bin J2.toXJ op_powB ok_pow xe_int xe_int) xe_int)) (by rfl) (.inl rfl)) (ys_one (ys_ret J2.toXJ (xe_lst J2.toXJ (xa_cons J2.toXJ (xe_callB J2.toXJ (CallR.or (call_max2 J2.cm) (cr_max J2.cm)) (by rw [← J2.toXJ.K]; exact ok_max) lk_sc_15_max h.g.b_max bt_max (xa_cons J2.toXJ xe_int (xa_cons J2.toXJ (xe_bin J2.toXJ op_subT ok_sub (xe_var (i := 3) rfl (.inl lk_sc_15__law_great) nd__law_great nc__law_great) (xe_bin J2.toXJ op_powB ok_pow xe_int xe_int)) xa_nil)) nn_max nd_max) (xa_cons J2.toXJ (xe_bin J2.toXJ op_addA (by rw [← J2.toXJ.K]; exact ok_add) (xe_bin J2.toXJ op_addA (by rw [← J2.toXJ.K]; exact ok_add) (xe_bin J2.toXJ op_addA (by rw [← J2.toXJ.K]; exact ok_add) (xe_bin J2.toXJ op_mulA (by rw [← J2.toXJ.K]; exact ok_mul) (xe_bin J2.toXJ op_mod ok_mod (xe_var (i := 3) rfl (.inl lk_sc_15__law_great) nd__law_great nc__law_great) xe_int) xe_int) (xe_bin J2.toXJ op_mulA (by rw [← J2.toXJ.K]; exact ok_mul) xe_int (xe_var (i := 1) rfl (.inl lk_sc_15__law_spot) nd__law_spot nc__law_spot))) (xe_bin J2.toXJ op_mulA (by rw [← J2.toXJ.K]; exact ok_mul) xe_int (xe_callTy J2.toXJ call_intX ok_intX lk_sc_15_int h.g.b_int bt_int (xa_cons J2.toXJ (xe_cmp J2.toXJ op_ltA ok_cmp (xe_var (i := 2) rfl (.inl lk_sc_15__law_cell) nd__law_cell nc__law_cell) xe_int (nomark _)) xa_nil) nn_int nd_int))) xe_int) (xa_cons J2.toXJ xe_int xa_nil))))))))
theorem bn_15 {K : PySem.W.Frag} {f : Addr} {fd : FuncData} (F : FunD K "_law_tray" "_law_tray" (defArgs (top 34)) (defBody (top 34)) (defScope (top 34)) [] [] f fd) : Binds K fd ["_law_script", "_law_spot"] [] := F.bindsN fun _ _ _ _ _ _ us hl => match us, hl with | [_, _], _ => rfl
theorem c_15 {P : Program} {w : World} {mg : Str → Option Value} {base : Heap} {W : Wd} (h : Wk P w mg base W) : Cal P w mg base 1 "_law_tray" 2 W f__law_tray := by
  obtain ⟨fd, F⟩ := h.def_ 15 _ rfl
  exact ⟨_, fd, ["_law_script", "_law_spot"], rfl, fn_15 h F, h.x_15, F.kp, bn_15 F⟩
theorem fn_16 {P : Program} {w : World} {mg : Str → Option Value} {base : Heap} {W : Wd} (h : Wk P w mg base W) {fd : FuncData} (F : FunD W.K "_law_pluck" "_law_pluck" (defArgs (top 35)) (defBody (top 35)) (defScope (top 35)) [] [] (He.ga W.K "_law_pluck") fd) : FnG P w W.K mg base 1 (He.ga W.K "_law_pluck") fd ["_law_tray_here", "_law_total"] (spN W 2 f__law_pluck) := by
  refine fn_ok (N := ["_law_tray_here", "_law_total", "_law_one", "_law_two", "_law_found"]) (d := d__law_pluck) rfl F ⟨rfl, rfl, rfl, by decide +kernel, rfl, by decide +kernel, by decide +kernel⟩ (.refl _) fun cdv A outer s H E hr J2 => ?_
  exact (ys_cons J2.toXJ (ys_if J2.toXJ (xt_cmp J2.toXJ op_gtA ok_cmp (xe_ix J2.toXJ (xe_var (i := 0) rfl (.inl lk_sc_16__law_tray_here) nd__law_tray_here nc__law_tray_here) xe_int) xe_int (nomark _)) (ys_cons J2.toXJ (ys_set (i := 4) J2.toXJ J2.nd rfl (.inl lk_sc_16__law_found) (xe_bin J2.toXJ op_mod ok_mod (xe_callTy J2.toXJ call_intX ok_intX lk_sc_16_int h.g.b_int bt_int (xa_cons J2.toXJ (xe_ix J2.toXJ (xe_var (i := 0) rfl (.inl lk_sc_16__law_tray_here) nd__law_tray_here nc__law_tray_here) xe_int) xa_nil) nn_int nd_int) (xe_var (i := 1) rfl (.inl lk_sc_16__law_total) nd__law_total nc__law_total)) (by rfl) (.inl rfl)) (ys_cons J2.toXJ (ys_sub J2.toXJ set_list ok_setL (xe_var (i := 0) rfl (.inl lk_sc_16__law_tray_here) nd__law_tray_here nc__law_tray_here) xe_int (xe_bin J2.toXJ op_fdivW ok_fdiv (xe_ix J2.toXJ (xe_var (i := 0) rfl (.inl lk_sc_16__law_tray_here) nd__law_tray_here nc__law_tray_here) xe_int) (xe_var (i := 1) rfl (.inl lk_sc_16__law_total) nd__law_total nc__law_total))) (ys_one (ys_ret J2.toXJ (xe_var (i := 4) rfl (.inl lk_sc_16__law_found) nd__law_found nc__law_found))))) ys_nil) (ys_cons J2.toXJ (ys_sub J2.toXJ set_list ok_setL (xe_var (i := 0) rfl (.inl lk_sc_16__law_tray_here) nd__law_tray_here nc__law_tray_here) xe_int (xe_bin J2.toXJ op_addA (by rw [← J2.toXJ.K]; exact ok_add) (xe_ix J2.toXJ (xe_var (i := 0) rfl (.inl lk_sc_16__law_tray_here) nd__law_tray_here nc__law_tray_here) xe_int) xe_int)) (ys_cons J2.toXJ (ys_set (i := 2) J2.toXJ J2.nd rfl (.inl lk_sc_16__law_one) (xe_bin J2.toXJ op_mod ok_mod (xe_callTy J2.toXJ call_intX ok_intX lk_sc_16_int h.g.b_int bt_int (xa_cons J2.toXJ (xe_bin J2.toXJ op_addA (by rw [← J2.toXJ.K]; exact ok_add) (xe_ix J2.toXJ (xe_var (i := 0) rfl (.inl lk_sc_16__law_tray_here) nd__law_tray_here nc__law_tray_here) xe_int) (xe_bin J2.toXJ op_mulA (by rw [← J2.toXJ.K]; exact ok_mul) xe_int (xe_ix J2.toXJ (xe_var (i := 0) rfl (.inl lk_sc_16__law_tray_here) nd__law_tray_here nc__law_tray_here) xe_int))) xa_nil) nn_int nd_int) xe_int) (by rfl) (.inl rfl)) (ys_cons J2.toXJ (ys_set (i := 3) J2.toXJ J2.nd rfl (.inl lk_sc_16__law_two) (xe_bin J2.toXJ op_addA (by rw [← J2.toXJ.K]; exact ok_add) (xe_bin J2.toXJ op_mulA (by rw [← J2.toXJ.K]; exact ok_mul) (xe_bin J2.toXJ op_mod ok_mod (xe_callTy J2.toXJ call_intX ok_intX lk_sc_16_int h.g.b_int bt_int (xa_cons J2.toXJ (xe_bin J2.toXJ op_addA (by rw [← J2.toXJ.K]; exact ok_add) (xe_bin J2.toXJ op_mulA (by rw [← J2.toXJ.K]; exact ok_mul) (xe_var (i := 2) rfl (.inl lk_sc_16__law_one) nd__law_one nc__law_one) (xe_var (i := 2) rfl (.inl lk_sc_16__law_one) nd__law_one nc__law_one)) (xe_bin J2.toXJ op_mulA (by rw [← J2.toXJ.K]; exact ok_mul) xe_int (xe_ix J2.toXJ (xe_var (i := 0) rfl (.inl lk_sc_16__law_tray_here) nd__law_tray_here nc__law_tray_here) xe_int))) xa_nil) nn_int nd_int) xe_int) xe_int) (xe_var (i := 2) rfl (.inl lk_sc_16__law_one) nd__law_one nc__law_one)) (by rfl) (.inl rfl)) (ys_one (ys_ret J2.toXJ (xe_bin J2.toXJ op_mod ok_mod (xe_callTy J2.toXJ call_intX ok_intX lk_sc_16_int h.g.b_int bt_int (xa_cons J2.toXJ (xe_bin J2.toXJ op_fdivW ok_fdiv (xe_var (i := 3) rfl (.inl lk_sc_16__law_two) nd__law_two nc__law_two) xe_int) xa_nil) nn_int nd_int) (xe_var (i := 1) rfl (.inl lk_sc_16__law_total) nd__law_total nc__law_total))))))))
theorem bn_16 {K : PySem.W.Frag} {f : Addr} {fd : FuncData} (F : FunD K "_law_pluck" "_law_pluck" (defArgs (top 35)) (defBody (top 35)) (defScope (top 35)) [] [] f fd) : Binds K fd ["_law_tray_here", "_law_total"] [] := F.bindsN fun _ _ _ _ _ _ us hl => match us, hl with | [_, _], _ => rfl
theorem c_16 {P : Program} {w : World} {mg : Str → Option Value} {base : Heap} {W : Wd} (h : Wk P w mg base W) : Cal P w mg base 1 "_law_pluck" 2 W f__law_pluck := by
  obtain ⟨fd, F⟩ := h.def_ 16 _ rfl
  exact ⟨_, fd, ["_law_tray_here", "_law_total"], rfl, fn_16 h F, h.x_16, F.kp, bn_16 F⟩
theorem fn_17 {P : Program} {w : World} {mg : Str → Option Value} {base : Heap} {W : Wd} (h : Wk P w mg base W) {fd : FuncData} (F : FunD W.K "_law_some" "_law_some" (defArgs (top 36)) (defBody (top 36)) (defScope (top 36)) [] [] (He.ga W.K "_law_some") fd) : FnG P w W.K mg base 2 (He.ga W.K "_law_some") fd ["_law_tray_here", "_law_items"] (spN W 2 f__law_some) := by
  have hc_16 := c_16 h
  refine fn_ok (N := ["_law_tray_here", "_law_items"]) (d := d__law_some) rfl F ⟨rfl, rfl, rfl, by decide +kernel, rfl, by decide +kernel, by decide +kernel⟩ (.refl _) fun cdv A outer s H E hr J2 => ?_
  exact (ys_one (ys_ret J2.toXJ (xe_ix J2.toXJ (xe_var (i := 1) rfl (.inl lk_sc_17__law_items) nd__law_items nc__law_items) (xe_call J2 (hc_16.mono (by decide)) hr lk_sc_17__law_pluck (xa_cons J2.toXJ (xe_var (i := 0) rfl (.inl lk_sc_17__law_tray_here) nd__law_tray_here nc__law_tray_here) (xa_cons J2.toXJ (xe_callB J2.toXJ call_len (by rw [← J2.toXJ.K]; exact ok_len) lk_sc_17_len h.g.b_len bt_len (xa_cons J2.toXJ (xe_var (i := 1) rfl (.inl lk_sc_17__law_items) nd__law_items nc__law_items) xa_nil) nn_len nd_len) xa_nil)) nd__law_pluck))))
theorem bn_17 {K : PySem.W.Frag} {f : Addr} {fd : FuncData} (F : FunD K "_law_some" "_law_some" (defArgs (top 36)) (defBody (top 36)) (defScope (top 36)) [] [] f fd) : Binds K fd ["_law_tray_here", "_law_items"] [] := F.bindsN fun _ _ _ _ _ _ us hl => match us, hl with | [_, _], _ => rfl
theorem c_17 {P : Program} {w : World} {mg : Str → Option Value} {base : Heap} {W : Wd} (h : Wk P w mg base W) : Cal P w mg base 2 "_law_some" 2 W f__law_some := by
  obtain ⟨fd, F⟩ := h.def_ 17 _ rfl
  exact ⟨_, fd, ["_law_tray_here", "_law_items"], rfl, fn_17 h F, h.x_17, F.kp, bn_17 F⟩
theorem fn_18 {P : Program} {w : World} {mg : Str → Option Value} {base : Heap} {W : Wd} (h : Wk P w mg base W) {fd : FuncData} (F : FunD W.K "_law_three" "_law_three" (defArgs (top 37)) (defBody (top 37)) (defScope (top 37)) [] [] (He.ga W.K "_law_three") fd) : FnG P w W.K mg base 1 (He.ga W.K "_law_three") fd ["_law_cell"] (spN W 1 f__law_three) := by
  refine fn_ok (N := ["_law_cell"]) (d := d__law_three) rfl F ⟨rfl, rfl, rfl, by decide +kernel, rfl, by decide +kernel, by decide +kernel⟩ (.refl _) fun cdv A outer s H E hr J2 => ?_
  exact (ys_one (ys_ret J2.toXJ (xe_sl J2.toXJ (xe_callTy J2.toXJ call_str_int ok_strI lk_sc_18_str h.g.b_str bt_str (xa_cons J2.toXJ (xe_bin J2.toXJ op_addA (by rw [← J2.toXJ.K]; exact ok_add) xe_int (xe_var (i := 0) rfl (.inl lk_sc_18__law_cell) nd__law_cell nc__law_cell)) xa_nil) nn_str nd_str) (xo_some J2.toXJ xe_int) xo_none)))
theorem bn_18 {K : PySem.W.Frag} {f : Addr} {fd : FuncData} (F : FunD K "_law_three" "_law_three" (defArgs (top 37)) (defBody (top 37)) (defScope (top 37)) [] [] f fd) : Binds K fd ["_law_cell"] [] := F.bindsN fun _ _ _ _ _ _ us hl => match us, hl with | [_], _ => rfl
theorem c_18 {P : Program} {w : World} {mg : Str → Option Value} {base : Heap} {W : Wd} (h : Wk P w mg base W) : Cal P w mg base 1 "_law_three" 1 W f__law_three := by
  obtain ⟨fd, F⟩ := h.def_ 18 _ rfl
  exact ⟨_, fd, ["_law_cell"], rfl, fn_18 h F, h.x_18, F.kp, bn_18 F⟩
theorem fn_19 {P : Program} {w : World} {mg : Str → Option Value} {base : Heap} {W : Wd} (h : Wk P w mg base W) {fd : FuncData} (F : FunD W.K "_law_told" "_law_told" (defArgs (top 38)) (defBody (top 38)) (defScope (top 38)) [] [] (He.ga W.K "_law_told") fd) : FnG P w W.K mg base 1 (He.ga W.K "_law_told") fd ["_law_digits"] (spN W 1 f__law_told) := by
  refine fn_ok (N := ["_law_digits", "_law_found", "_law_at", "_law_three_here", "_law_sign"]) (d := d__law_told) rfl F ⟨rfl, rfl, rfl, by decide +kernel, rfl, by decide +kernel, by decide +kernel⟩ (r_law_told) fun cdv A outer s H E hr J2 => ?_
  exact (ys_cons J2.toXJ (ys_set (i := 1) J2.toXJ J2.nd rfl (.inl lk_sc_19__law_found) (xe_lst J2.toXJ xa_nil) (by rfl) (.inl rfl)) (ys_cons J2.toXJ (ys_for J2 (xi_rng3 J2.toXJ lk_sc_19_range h.g.b_range (xa_cons J2.toXJ xe_int (xa_cons J2.toXJ (xe_callB J2.toXJ call_len (by rw [← J2.toXJ.K]; exact ok_len) lk_sc_19_len h.g.b_len bt_len (xa_cons J2.toXJ (xe_var (i := 0) rfl (.inl lk_sc_19__law_digits) nd__law_digits nc__law_digits) xa_nil) nn_len nd_len) (xa_cons J2.toXJ xe_int xa_nil)))) (yg_nm (i := 2) J2.nd rfl (.inl lk_sc_19__law_at) (.inl rfl)) (ys_cons J2.toXJ (ys_set (i := 3) J2.toXJ J2.nd rfl (.inl lk_sc_19__law_three_here) (xe_sl J2.toXJ (xe_var (i := 0) rfl (.inl lk_sc_19__law_digits) nd__law_digits nc__law_digits) (xo_some J2.toXJ (xe_var (i := 2) rfl (.inl lk_sc_19__law_at) nd__law_at nc__law_at)) (xo_some J2.toXJ (xe_bin J2.toXJ op_addA (by rw [← J2.toXJ.K]; exact ok_add) (xe_var (i := 2) rfl (.inl lk_sc_19__law_at) nd__law_at nc__law_at) xe_int))) (by rfl) (.inl rfl)) (ys_cons J2.toXJ (ys_if J2.toXJ (xw_or J2.toXJ (xt_cmp J2.toXJ op_ltA ok_cmp (xe_callB J2.toXJ call_len (by rw [← J2.toXJ.K]; exact ok_len) lk_sc_19_len h.g.b_len bt_len (xa_cons J2.toXJ (xe_var (i := 3) rfl (.inl lk_sc_19__law_three_here) nd__law_three_here nc__law_three_here) xa_nil) nn_len nd_len) xe_int (nomark _)) (xw_or J2.toXJ (xt_cmp J2.toXJ (op_neA hr.units) (by rw [← J2.toXJ.K]; exact ok_ne) (xc_lc J2  (xi_val J2.toXJ (xe_var (i := 3) rfl (.inl lk_sc_19__law_three_here) nd__law_three_here nc__law_three_here)) (own := [("_law_sign", 4)]) (by kernel_rfl) (by rfl) (fun s H C cl fp B2 => (yg_nm (i := 4) B2.nd rfl (.inl (by kernel_rfl)) (.inr (by kernel_rfl)))) (fun s H C cl fp B2 => (pts_of (xt_cmp B2.toXJ (op_notInA (u65 hr)) (by rw [← B2.toXJ.K]; exact ok_notIn) (xe_var (i := 4) rfl (.inl (by kernel_rfl)) nd__law_sign nc__law_sign) (xe_str (by kernel_rfl)) (by with_unfolding_all rfl)))) (fun s H C cl fp B2 => (xe_var (i := 4) rfl (.inl (by kernel_rfl)) nd__law_sign nc__law_sign))) (xe_lst J2.toXJ xa_nil) (nomark _)) (xw_or1 (xt_cmp J2.toXJ op_gtA ok_cmp (xe_callTy J2.toXJ call_intX ok_intX lk_sc_19_int h.g.b_int bt_int (xa_cons J2.toXJ (xe_var (i := 3) rfl (.inl lk_sc_19__law_three_here) nd__law_three_here nc__law_three_here) xa_nil) nn_int nd_int) xe_int (nomark _))))).pt (ys_one (ys_ret J2.toXJ xe_non)) ys_nil) (ys_one (ys_expr J2.toXJ (xe_met J2.toXJ PySem.F.plainAttrs_list PySem.F.slot_list_append PySem.F.type_list_append mt_append ty_lst ok_append (xe_var (i := 1) rfl (.inl lk_sc_19__law_found) nd__law_found nc__law_found) (xa_cons J2.toXJ (xe_callTy J2.toXJ call_intX ok_intX lk_sc_19_int h.g.b_int bt_int (xa_cons J2.toXJ (xe_var (i := 3) rfl (.inl lk_sc_19__law_three_here) nd__law_three_here nc__law_three_here) xa_nil) nn_int nd_int) xa_nil))))))) (ys_one (ys_ret J2.toXJ (xe_callTy J2.toXJ call_tuple_of (by rw [← J2.toXJ.K]; exact ok_tupleA) lk_sc_19_tuple h.g.b_tuple bt_tuple (xa_cons J2.toXJ (xe_var (i := 1) rfl (.inl lk_sc_19__law_found) nd__law_found nc__law_found) xa_nil) nn_tuple nd_tuple)))))
theorem bn_19 {K : PySem.W.Frag} {f : Addr} {fd : FuncData} (F : FunD K "_law_told" "_law_told" (defArgs (top 38)) (defBody (top 38)) (defScope (top 38)) [] [] f fd) : Binds K fd ["_law_digits"] [] := F.bindsN fun _ _ _ _ _ _ us hl => match us, hl with | [_], _ => rfl
theorem c_19 {P : Program} {w : World} {mg : Str → Option Value} {base : Heap} {W : Wd} (h : Wk P w mg base W) : Cal P w mg base 1 "_law_told" 1 W f__law_told := by
  obtain ⟨fd, F⟩ := h.def_ 19 _ rfl
  exact ⟨_, fd, ["_law_digits"], rfl, fn_19 h F, h.x_19, F.kp, bn_19 F⟩
theorem fn_20 {P : Program} {w : World} {mg : Str → Option Value} {base : Heap} {W : Wd} (h : Wk P w mg base W) {fd : FuncData} (F : FunD W.K "_law_window" "_law_window" (defArgs (top 39)) (defBody (top 39)) (defScope (top 39)) [] [] (He.ga W.K "_law_window") fd) : FnG P w W.K mg base 2 (He.ga W.K "_law_window") fd ["_law_cells_here"] (spN W 1 f__law_window) := by
  have hc_18 := c_18 h
  refine fn_ok (N := ["_law_cells_here", "_law_cell"]) (d := d__law_window) rfl F ⟨rfl, rfl, rfl, by decide +kernel, rfl, by decide +kernel, by decide +kernel⟩ (r_law_window) fun cdv A outer s H E hr J2 => ?_
  exact (ys_one (ys_ret J2.toXJ (xe_bin J2.toXJ op_addA (by rw [← J2.toXJ.K]; exact ok_add) (xe_bin J2.toXJ op_addA (by rw [← J2.toXJ.K]; exact ok_add) (xe_str (by kernel_rfl)) (xe_met J2.toXJ PySem.F.plainAttrs_str PySem.F.slot_str_join PySem.F.type_str_join mt_join ty_str (by rw [← J2.toXJ.K]; exact ok_join) (xe_str (by kernel_rfl)) (xa_cons J2.toXJ (xc_lc J2  (xi_val J2.toXJ (xe_var (i := 0) rfl (.inl lk_sc_20__law_cells_here) nd__law_cells_here nc__law_cells_here)) (own := [("_law_cell", 1)]) (by kernel_rfl) (by rfl) (fun s H C cl fp B2 => (yg_nm (i := 1) B2.nd rfl (.inl (by kernel_rfl)) (.inr (by kernel_rfl)))) (fun s H C cl fp B2 => pts_yes) (fun s H C cl fp B2 => (xe_call B2 (hc_18.mono (by decide)) hr (gl_of (by kernel_rfl)) (xa_cons B2.toXJ (xe_var (i := 1) rfl (.inl (by kernel_rfl)) nd__law_cell nc__law_cell) xa_nil) nd__law_three))) xa_nil))) (xe_str (by kernel_rfl)))))
theorem bn_20 {K : PySem.W.Frag} {f : Addr} {fd : FuncData} (F : FunD K "_law_window" "_law_window" (defArgs (top 39)) (defBody (top 39)) (defScope (top 39)) [] [] f fd) : Binds K fd ["_law_cells_here"] [] := F.bindsN fun _ _ _ _ _ _ us hl => match us, hl with | [_], _ => rfl
theorem c_20 {P : Program} {w : World} {mg : Str → Option Value} {base : Heap} {W : Wd} (h : Wk P w mg base W) : Cal P w mg base 2 "_law_window" 1 W f__law_window := by
  obtain ⟨fd, F⟩ := h.def_ 20 _ rfl
  exact ⟨_, fd, ["_law_cells_here"], rfl, fn_20 h F, h.x_20, F.kp, bn_20 F⟩
theorem fn_21 {P : Program} {w : World} {mg : Str → Option Value} {base : Heap} {W : Wd} (h : Wk P w mg base W) {fd : FuncData} (F : FunD W.K "_law_windows" "_law_windows" (defArgs (top 40)) (defBody (top 40)) (defScope (top 40)) [] [] (He.ga W.K "_law_windows") fd) : FnG P w W.K mg base 2 (He.ga W.K "_law_windows") fd ["_law_text"] (spN W 1 f__law_windows) := by
  have hc_19 := c_19 h
  refine fn_ok (N := ["_law_text", "_law_found", "_law_place", "_law_cells_here"]) (d := d__law_windows) rfl F ⟨rfl, rfl, rfl, by decide +kernel, rfl, by decide +kernel, by decide +kernel⟩ (.refl _) fun cdv A outer s H E hr J2 => ?_
  exact (ys_cons J2.toXJ (ys_set (i := 1) J2.toXJ J2.nd rfl (.inl lk_sc_21__law_found) (xe_lst J2.toXJ xa_nil) (by rfl) (.inl rfl)) (ys_cons J2.toXJ (ys_for J2 (xi_rng1 J2.toXJ lk_sc_21_range h.g.b_range (xa_cons J2.toXJ (xe_bin J2.toXJ op_subT ok_sub (xe_callB J2.toXJ call_len (by rw [← J2.toXJ.K]; exact ok_len) lk_sc_21_len h.g.b_len bt_len (xa_cons J2.toXJ (xe_var (i := 0) rfl (.inl lk_sc_21__law_text) nd__law_text nc__law_text) xa_nil) nn_len nd_len) xe_int) xa_nil)) (yg_nm (i := 2) J2.nd rfl (.inl lk_sc_21__law_place) (.inl rfl)) (ys_one (ys_if J2.toXJ (xw_and J2.toXJ (xt_cmp J2.toXJ (op_eqA hr.units) (by rw [← J2.toXJ.K]; exact ok_eq) (xe_ix J2.toXJ (xe_var (i := 0) rfl (.inl lk_sc_21__law_text) nd__law_text nc__law_text) (xe_var (i := 2) rfl (.inl lk_sc_21__law_place) nd__law_place nc__law_place)) (xe_str (by kernel_rfl)) (nomark _)) (xw_and1 (xt_cmp J2.toXJ (op_eqA hr.units) (by rw [← J2.toXJ.K]; exact ok_eq) (xe_ix J2.toXJ (xe_var (i := 0) rfl (.inl lk_sc_21__law_text) nd__law_text nc__law_text) (xe_bin J2.toXJ op_addA (by rw [← J2.toXJ.K]; exact ok_add) (xe_var (i := 2) rfl (.inl lk_sc_21__law_place) nd__law_place nc__law_place) xe_int)) (xe_str (by kernel_rfl)) (nomark _)))).pt (ys_cons J2.toXJ (ys_set (i := 3) J2.toXJ J2.nd rfl (.inl lk_sc_21__law_cells_here) (xe_call J2 (hc_19.mono (by decide)) hr lk_sc_21__law_told (xa_cons J2.toXJ (xe_sl J2.toXJ (xe_var (i := 0) rfl (.inl lk_sc_21__law_text) nd__law_text nc__law_text) (xo_some J2.toXJ (xe_bin J2.toXJ op_addA (by rw [← J2.toXJ.K]; exact ok_add) (xe_var (i := 2) rfl (.inl lk_sc_21__law_place) nd__law_place nc__law_place) xe_int)) (xo_some J2.toXJ (xe_bin J2.toXJ op_addA (by rw [← J2.toXJ.K]; exact ok_add) (xe_var (i := 2) rfl (.inl lk_sc_21__law_place) nd__law_place nc__law_place) xe_int))) xa_nil) nd__law_told) (by rfl) (.inl rfl)) (ys_one (ys_if J2.toXJ (xt_cmp J2.toXJ op_notN ok_notN (xe_var (i := 3) rfl (.inl lk_sc_21__law_cells_here) nd__law_cells_here nc__law_cells_here) xe_non (nomark _)) (ys_one (ys_expr J2.toXJ (xe_met J2.toXJ PySem.F.plainAttrs_list PySem.F.slot_list_append PySem.F.type_list_append mt_append ty_lst ok_append (xe_var (i := 1) rfl (.inl lk_sc_21__law_found) nd__law_found nc__law_found) (xa_cons J2.toXJ (xe_tup J2.toXJ (xa_cons J2.toXJ (xe_var (i := 2) rfl (.inl lk_sc_21__law_place) nd__law_place nc__law_place) (xa_cons J2.toXJ (xe_var (i := 3) rfl (.inl lk_sc_21__law_cells_here) nd__law_cells_here nc__law_cells_here) xa_nil))) xa_nil)))) ys_nil))) ys_nil))) (ys_one (ys_ret J2.toXJ (xe_var (i := 1) rfl (.inl lk_sc_21__law_found) nd__law_found nc__law_found)))))
theorem bn_21 {K : PySem.W.Frag} {f : Addr} {fd : FuncData} (F : FunD K "_law_windows" "_law_windows" (defArgs (top 40)) (defBody (top 40)) (defScope (top 40)) [] [] f fd) : Binds K fd ["_law_text"] [] := F.bindsN fun _ _ _ _ _ _ us hl => match us, hl with | [_], _ => rfl
theorem c_21 {P : Program} {w : World} {mg : Str → Option Value} {base : Heap} {W : Wd} (h : Wk P w mg base W) : Cal P w mg base 2 "_law_windows" 1 W f__law_windows := by
  obtain ⟨fd, F⟩ := h.def_ 21 _ rfl
  exact ⟨_, fd, ["_law_text"], rfl, fn_21 h F, h.x_21, F.kp, bn_21 F⟩
theorem fn_22 {P : Program} {w : World} {mg : Str → Option Value} {base : Heap} {W : Wd} (h : Wk P w mg base W) {fd : FuncData} (F : FunD W.K "_law_cells" "_law_cells" (defArgs (top 41)) (defBody (top 41)) (defScope (top 41)) [] [] (He.ga W.K "_law_cells") fd) : FnG P w W.K mg base 3 (He.ga W.K "_law_cells") fd ["_law_tray_here"] (spN W 1 f__law_cells) := by
  have hc_16 := c_16 h
  have hc_17 := c_17 h
  refine fn_ok (N := ["_law_tray_here", "_law_turn", "_law_way", "_law_found"]) (d := d__law_cells) rfl F ⟨rfl, rfl, rfl, by decide +kernel, rfl, by decide +kernel, by decide +kernel⟩ (.refl _) fun cdv A outer s H E hr J2 => ?_
  exact (ys_cons J2.toXJ (ys_par (i := 2) (j := 3) J2.toXJ J2.cm J2.nd rfl rfl (by decide) lk_sc_22__law_way lk_sc_22__law_found (xe_call J2 (hc_16.mono (by decide)) hr lk_sc_22__law_pluck (xa_cons J2.toXJ (xe_var (i := 0) rfl (.inl lk_sc_22__law_tray_here) nd__law_tray_here nc__law_tray_here) (xa_cons J2.toXJ xe_int xa_nil)) nd__law_pluck) (xe_lst J2.toXJ xa_nil) (by rfl)) (ys_cons J2.toXJ (ys_for J2 (xi_rng1 J2.toXJ lk_sc_22_range h.g.b_range (xa_cons J2.toXJ xe_int xa_nil)) (yg_nm (i := 1) J2.nd rfl (.inl lk_sc_22__law_turn) (.inl rfl)) (ys_one (ys_expr J2.toXJ (xe_met J2.toXJ PySem.F.plainAttrs_list PySem.F.slot_list_append PySem.F.type_list_append mt_append ty_lst ok_append (xe_var (i := 3) rfl (.inl lk_sc_22__law_found) nd__law_found nc__law_found) (xa_cons J2.toXJ (xe_if J2.toXJ (xt_cmp J2.toXJ (op_eqA hr.units) (by rw [← J2.toXJ.K]; exact ok_eq) (xe_var (i := 2) rfl (.inl lk_sc_22__law_way) nd__law_way nc__law_way) xe_int (nomark _)) (xe_call J2 (hc_16.mono (by decide)) hr lk_sc_22__law_pluck (xa_cons J2.toXJ (xe_var (i := 0) rfl (.inl lk_sc_22__law_tray_here) nd__law_tray_here nc__law_tray_here) (xa_cons J2.toXJ xe_int xa_nil)) nd__law_pluck) (xe_call J2 (hc_17.mono (by decide)) hr lk_sc_22__law_some (xa_cons J2.toXJ (xe_var (i := 0) rfl (.inl lk_sc_22__law_tray_here) nd__law_tray_here nc__law_tray_here) (xa_cons J2.toXJ (xe_lst J2.toXJ (xa_cons J2.toXJ xe_int (xa_cons J2.toXJ xe_int (xa_cons J2.toXJ xe_int (xa_cons J2.toXJ xe_int xa_nil))))) xa_nil)) nd__law_some)) xa_nil))))) (ys_one (ys_ret J2.toXJ (xe_callTy J2.toXJ call_tuple_of (by rw [← J2.toXJ.K]; exact ok_tupleA) lk_sc_22_tuple h.g.b_tuple bt_tuple (xa_cons J2.toXJ (xe_var (i := 3) rfl (.inl lk_sc_22__law_found) nd__law_found nc__law_found) xa_nil) nn_tuple nd_tuple)))))
theorem bn_22 {K : PySem.W.Frag} {f : Addr} {fd : FuncData} (F : FunD K "_law_cells" "_law_cells" (defArgs (top 41)) (defBody (top 41)) (defScope (top 41)) [] [] f fd) : Binds K fd ["_law_tray_here"] [] := F.bindsN fun _ _ _ _ _ _ us hl => match us, hl with | [_], _ => rfl
theorem c_22 {P : Program} {w : World} {mg : Str → Option Value} {base : Heap} {W : Wd} (h : Wk P w mg base W) : Cal P w mg base 3 "_law_cells" 1 W f__law_cells := by
  obtain ⟨fd, F⟩ := h.def_ 22 _ rfl
  exact ⟨_, fd, ["_law_tray_here"], rfl, fn_22 h F, h.x_22, F.kp, bn_22 F⟩
theorem fn_23 {P : Program} {w : World} {mg : Str → Option Value} {base : Heap} {W : Wd} (h : Wk P w mg base W) {fd : FuncData} (F : FunD W.K "_law_bit" "_law_bit" (defArgs (top 42)) (defBody (top 42)) (defScope (top 42)) [] [] (He.ga W.K "_law_bit") fd) : FnG P w W.K mg base 4 (He.ga W.K "_law_bit") fd ["_law_tray_here"] (spN W 1 f__law_bit) := by
  have hc_16 := c_16 h
  have hc_17 := c_17 h
  have hc_20 := c_20 h
  have hc_22 := c_22 h
  refine fn_ok (N := ["_law_tray_here", "_law_at", "_law_window_here", "_law_way"]) (d := d__law_bit) rfl F ⟨rfl, rfl, rfl, by decide +kernel, rfl, by decide +kernel, by decide +kernel⟩ (.refl _) fun cdv A outer s H E hr J2 => ?_
  exact (ys_cons J2.toXJ (ys_par (i := 2) (j := 3) J2.toXJ J2.cm J2.nd rfl rfl (by decide) lk_sc_23__law_window_here lk_sc_23__law_way (xe_call J2 (hc_20.mono (by decide)) hr lk_sc_23__law_window (xa_cons J2.toXJ (xe_call J2 (hc_22.mono (by decide)) hr lk_sc_23__law_cells (xa_cons J2.toXJ (xe_var (i := 0) rfl (.inl lk_sc_23__law_tray_here) nd__law_tray_here nc__law_tray_here) xa_nil) nd__law_cells) xa_nil) nd__law_window) (xe_call J2 (hc_16.mono (by decide)) hr lk_sc_23__law_pluck (xa_cons J2.toXJ (xe_var (i := 0) rfl (.inl lk_sc_23__law_tray_here) nd__law_tray_here nc__law_tray_here) (xa_cons J2.toXJ xe_int xa_nil)) nd__law_pluck) (by rfl)) (ys_cons J2.toXJ (ys_if J2.toXJ (xt_cmp J2.toXJ op_ltA ok_cmp (xe_var (i := 3) rfl (.inl lk_sc_23__law_way) nd__law_way nc__law_way) xe_int (nomark _)) (ys_one (ys_ret J2.toXJ (xe_var (i := 2) rfl (.inl lk_sc_23__law_window_here) nd__law_window_here nc__law_window_here))) ys_nil) (ys_cons J2.toXJ (ys_set (i := 1) J2.toXJ J2.nd rfl (.inl lk_sc_23__law_at) (xe_call J2 (hc_16.mono (by decide)) hr lk_sc_23__law_pluck (xa_cons J2.toXJ (xe_var (i := 0) rfl (.inl lk_sc_23__law_tray_here) nd__law_tray_here nc__law_tray_here) (xa_cons J2.toXJ xe_int xa_nil)) nd__law_pluck) (by rfl) (.inl rfl)) (ys_cons J2.toXJ (ys_if J2.toXJ (xt_cmp J2.toXJ (op_eqA hr.units) (by rw [← J2.toXJ.K]; exact ok_eq) (xe_var (i := 3) rfl (.inl lk_sc_23__law_way) nd__law_way nc__law_way) xe_int (nomark _)) (ys_one (ys_ret J2.toXJ (xe_sl J2.toXJ (xe_var (i := 2) rfl (.inl lk_sc_23__law_window_here) nd__law_window_here nc__law_window_here) xo_none (xo_some J2.toXJ (xe_var (i := 1) rfl (.inl lk_sc_23__law_at) nd__law_at nc__law_at))))) ys_nil) (ys_cons J2.toXJ (ys_if J2.toXJ (xt_cmp J2.toXJ (op_eqA hr.units) (by rw [← J2.toXJ.K]; exact ok_eq) (xe_var (i := 3) rfl (.inl lk_sc_23__law_way) nd__law_way nc__law_way) xe_int (nomark _)) (ys_one (ys_ret J2.toXJ (xe_sl J2.toXJ (xe_var (i := 2) rfl (.inl lk_sc_23__law_window_here) nd__law_window_here nc__law_window_here) (xo_some J2.toXJ (xe_var (i := 1) rfl (.inl lk_sc_23__law_at) nd__law_at nc__law_at)) xo_none))) ys_nil) (ys_cons J2.toXJ (ys_if J2.toXJ (xt_cmp J2.toXJ (op_eqA hr.units) (by rw [← J2.toXJ.K]; exact ok_eq) (xe_var (i := 3) rfl (.inl lk_sc_23__law_way) nd__law_way nc__law_way) xe_int (nomark _)) (ys_one (ys_ret J2.toXJ (xe_bin J2.toXJ op_addA (by rw [← J2.toXJ.K]; exact ok_add) (xe_bin J2.toXJ op_addA (by rw [← J2.toXJ.K]; exact ok_add) (xe_sl J2.toXJ (xe_var (i := 2) rfl (.inl lk_sc_23__law_window_here) nd__law_window_here nc__law_window_here) xo_none (xo_some J2.toXJ (xe_var (i := 1) rfl (.inl lk_sc_23__law_at) nd__law_at nc__law_at))) (xe_call J2 (hc_17.mono (by decide)) hr lk_sc_23__law_some (xa_cons J2.toXJ (xe_var (i := 0) rfl (.inl lk_sc_23__law_tray_here) nd__law_tray_here nc__law_tray_here) (xa_cons J2.toXJ (xe_lst J2.toXJ (xa_cons J2.toXJ (xe_str (by kernel_rfl)) (xa_cons J2.toXJ (xe_str (by kernel_rfl)) (xa_cons J2.toXJ (xe_str (by kernel_rfl)) (xa_cons J2.toXJ (xe_str (by kernel_rfl)) (xa_cons J2.toXJ (xe_str (by kernel_rfl)) (xa_cons J2.toXJ (xe_str (by kernel_rfl)) xa_nil))))))) xa_nil)) nd__law_some)) (xe_sl J2.toXJ (xe_var (i := 2) rfl (.inl lk_sc_23__law_window_here) nd__law_window_here nc__law_window_here) (xo_some J2.toXJ (xe_bin J2.toXJ op_addA (by rw [← J2.toXJ.K]; exact ok_add) (xe_var (i := 1) rfl (.inl lk_sc_23__law_at) nd__law_at nc__law_at) xe_int)) xo_none)))) ys_nil) (ys_cons J2.toXJ (ys_if J2.toXJ (xt_cmp J2.toXJ (op_eqA hr.units) (by rw [← J2.toXJ.K]; exact ok_eq) (xe_var (i := 3) rfl (.inl lk_sc_23__law_way) nd__law_way nc__law_way) xe_int (nomark _)) (ys_one (ys_ret J2.toXJ (xe_bin J2.toXJ op_addA (by rw [← J2.toXJ.K]; exact ok_add) (xe_bin J2.toXJ op_addA (by rw [← J2.toXJ.K]; exact ok_add) (xe_sl J2.toXJ (xe_var (i := 2) rfl (.inl lk_sc_23__law_window_here) nd__law_window_here nc__law_window_here) xo_none (xo_some J2.toXJ (xe_var (i := 1) rfl (.inl lk_sc_23__law_at) nd__law_at nc__law_at))) (xe_call J2 (hc_17.mono (by decide)) hr lk_sc_23__law_some (xa_cons J2.toXJ (xe_var (i := 0) rfl (.inl lk_sc_23__law_tray_here) nd__law_tray_here nc__law_tray_here) (xa_cons J2.toXJ (xe_lst J2.toXJ (xa_cons J2.toXJ (xe_str (by kernel_rfl)) (xa_cons J2.toXJ (xe_str (by kernel_rfl)) (xa_cons J2.toXJ (xe_str (by kernel_rfl)) (xa_cons J2.toXJ (xe_str (by kernel_rfl)) xa_nil))))) xa_nil)) nd__law_some)) (xe_sl J2.toXJ (xe_var (i := 2) rfl (.inl lk_sc_23__law_window_here) nd__law_window_here nc__law_window_here) (xo_some J2.toXJ (xe_var (i := 1) rfl (.inl lk_sc_23__law_at) nd__law_at nc__law_at)) xo_none)))) ys_nil) (ys_one (ys_ret J2.toXJ (xe_call J2 (hc_17.mono (by decide)) hr lk_sc_23__law_some (xa_cons J2.toXJ (xe_var (i := 0) rfl (.inl lk_sc_23__law_tray_here) nd__law_tray_here nc__law_tray_here) (xa_cons J2.toXJ (xe_lst J2.toXJ (xa_cons J2.toXJ (xe_str (by kernel_rfl)) (xa_cons J2.toXJ (xe_str (by kernel_rfl)) (xa_cons J2.toXJ (xe_str (by kernel_rfl)) (xa_cons J2.toXJ (xe_str (by kernel_rfl)) (xa_cons J2.toXJ (xe_str (by kernel_rfl)) (xa_cons J2.toXJ (xe_str (by kernel_rfl)) (xa_cons J2.toXJ (xe_str (by kernel_rfl)) (xa_cons J2.toXJ (xe_str (by kernel_rfl)) xa_nil))))))))) xa_nil)) nd__law_some))))))))))
theorem bn_23 {K : PySem.W.Frag} {f : Addr} {fd : FuncData} (F : FunD K "_law_bit" "_law_bit" (defArgs (top 42)) (defBody (top 42)) (defScope (top 42)) [] [] f fd) : Binds K fd ["_law_tray_here"] [] := F.bindsN fun _ _ _ _ _ _ us hl => match us, hl with | [_], _ => rfl
theorem c_23 {P : Program} {w : World} {mg : Str → Option Value} {base : Heap} {W : Wd} (h : Wk P w mg base W) : Cal P w mg base 4 "_law_bit" 1 W f__law_bit := by
  obtain ⟨fd, F⟩ := h.def_ 23 _ rfl
  exact ⟨_, fd, ["_law_tray_here"], rfl, fn_23 h F, h.x_23, F.kp, bn_23 F⟩
theorem fn_24 {P : Program} {w : World} {mg : Str → Option Value} {base : Heap} {W : Wd} (h : Wk P w mg base W) {fd : FuncData} (F : FunD W.K "_law_drawn" "_law_drawn" (defArgs (top 43)) (defBody (top 43)) (defScope (top 43)) [] [] (He.ga W.K "_law_drawn") fd) : FnG P w W.K mg base 5 (He.ga W.K "_law_drawn") fd ["_law_tray_here", "_law_many"] (spN W 2 f__law_drawn) := by
  have hc_16 := c_16 h
  have hc_23 := c_23 h
  refine fn_ok (N := ["_law_tray_here", "_law_many", "_law_turn"]) (d := d__law_drawn) rfl F ⟨rfl, rfl, rfl, by decide +kernel, rfl, by decide +kernel, by decide +kernel⟩ (.refl _) fun cdv A outer s H E hr J2 => ?_
  exact (ys_one (ys_ret J2.toXJ (xe_met J2.toXJ PySem.F.plainAttrs_str PySem.F.slot_str_join PySem.F.type_str_join mt_join ty_str (by rw [← J2.toXJ.K]; exact ok_join) (xe_str (by kernel_rfl)) (xa_cons J2.toXJ (xc_lc J2  (xi_rng1 J2.toXJ lk_sc_24_range h.g.b_range (xa_cons J2.toXJ (xe_call J2 (hc_16.mono (by decide)) hr lk_sc_24__law_pluck (xa_cons J2.toXJ (xe_var (i := 0) rfl (.inr (.inl lk_sc_24__law_tray_here)) nd__law_tray_here nc__law_tray_here) (xa_cons J2.toXJ (xe_bin J2.toXJ op_addA (by rw [← J2.toXJ.K]; exact ok_add) (xe_var (i := 1) rfl (.inl lk_sc_24__law_many) nd__law_many nc__law_many) xe_int) xa_nil)) nd__law_pluck) xa_nil)) (own := [("_law_turn", 2)]) (by kernel_rfl) (by rfl) (fun s H C cl fp B2 => (yg_nm (i := 2) B2.nd rfl (.inl (by kernel_rfl)) (.inr (by kernel_rfl)))) (fun s H C cl fp B2 => pts_yes) (fun s H C cl fp B2 => (xe_call B2 (hc_23.mono (by decide)) hr (gl_of (by kernel_rfl)) (xa_cons B2.toXJ (xe_var (i := 0) rfl (.inr (.inl (by kernel_rfl))) nd__law_tray_here nc__law_tray_here) xa_nil) nd__law_bit))) xa_nil))))
theorem bn_24 {K : PySem.W.Frag} {f : Addr} {fd : FuncData} (F : FunD K "_law_drawn" "_law_drawn" (defArgs (top 43)) (defBody (top 43)) (defScope (top 43)) [] [] f fd) : Binds K fd ["_law_tray_here", "_law_many"] [] := F.bindsN fun _ _ _ _ _ _ us hl => match us, hl with | [_, _], _ => rfl
theorem c_24 {P : Program} {w : World} {mg : Str → Option Value} {base : Heap} {W : Wd} (h : Wk P w mg base W) : Cal P w mg base 5 "_law_drawn" 2 W f__law_drawn := by
  obtain ⟨fd, F⟩ := h.def_ 24 _ rfl
  exact ⟨_, fd, ["_law_tray_here", "_law_many"], rfl, fn_24 h F, h.x_24, F.kp, bn_24 F⟩
theorem fn_25 {P : Program} {w : World} {mg : Str → Option Value} {base : Heap} {W : Wd} (h : Wk P w mg base W) {fd : FuncData} (F : FunD W.K "_law_near" "_law_near" (defArgs (top 44)) (defBody (top 44)) (defScope (top 44)) [] [] (He.ga W.K "_law_near") fd) : FnG P w W.K mg base 2 (He.ga W.K "_law_near") fd ["_law_tray_here", "_law_text"] (spN W 2 f__law_near) := by
  have hc_16 := c_16 h
  refine fn_ok (N := ["_law_tray_here", "_law_text", "_law_at", "_law_found"]) (d := d__law_near) rfl F ⟨rfl, rfl, rfl, by decide +kernel, rfl, by decide +kernel, by decide +kernel⟩ (.refl _) fun cdv A outer s H E hr J2 => ?_
  exact (ys_cons J2.toXJ (ys_set (i := 2) J2.toXJ J2.nd rfl (.inl lk_sc_25__law_at) (xe_call J2 (hc_16.mono (by decide)) hr lk_sc_25__law_pluck (xa_cons J2.toXJ (xe_var (i := 0) rfl (.inl lk_sc_25__law_tray_here) nd__law_tray_here nc__law_tray_here) (xa_cons J2.toXJ (xe_bin J2.toXJ op_addA (by rw [← J2.toXJ.K]; exact ok_add) (xe_callB J2.toXJ call_len (by rw [← J2.toXJ.K]; exact ok_len) lk_sc_25_len h.g.b_len bt_len (xa_cons J2.toXJ (xe_var (i := 1) rfl (.inl lk_sc_25__law_text) nd__law_text nc__law_text) xa_nil) nn_len nd_len) xe_int) xa_nil)) nd__law_pluck) (by rfl) (.inl rfl)) (ys_cons J2.toXJ (ys_set (i := 3) J2.toXJ J2.nd rfl (.inl lk_sc_25__law_found) (xe_lst J2.toXJ (xa_cons J2.toXJ (xe_var (i := 1) rfl (.inl lk_sc_25__law_text) nd__law_text nc__law_text) (xa_cons J2.toXJ (xe_bin J2.toXJ op_addA (by rw [← J2.toXJ.K]; exact ok_add) (xe_var (i := 1) rfl (.inl lk_sc_25__law_text) nd__law_text nc__law_text) (xe_str (by kernel_rfl))) (xa_cons J2.toXJ (xe_sl J2.toXJ (xe_var (i := 1) rfl (.inl lk_sc_25__law_text) nd__law_text nc__law_text) xo_none (xo_some J2.toXJ (xe_un J2.toXJ un_neg ok_neg xe_int))) (xa_cons J2.toXJ (xe_sl J2.toXJ (xe_var (i := 1) rfl (.inl lk_sc_25__law_text) nd__law_text nc__law_text) (xo_some J2.toXJ xe_int) xo_none) (xa_cons J2.toXJ (xe_rev J2.toXJ (xe_var (i := 1) rfl (.inl lk_sc_25__law_text) nd__law_text nc__law_text)) (xa_cons J2.toXJ (xe_bin J2.toXJ op_addA (by rw [← J2.toXJ.K]; exact ok_add) (xe_str (by kernel_rfl)) (xe_var (i := 1) rfl (.inl lk_sc_25__law_text) nd__law_text nc__law_text)) (xa_cons J2.toXJ (xe_bin J2.toXJ op_addA (by rw [← J2.toXJ.K]; exact ok_add) (xe_bin J2.toXJ op_addA (by rw [← J2.toXJ.K]; exact ok_add) (xe_sl J2.toXJ (xe_var (i := 1) rfl (.inl lk_sc_25__law_text) nd__law_text nc__law_text) xo_none (xo_some J2.toXJ (xe_var (i := 2) rfl (.inl lk_sc_25__law_at) nd__law_at nc__law_at))) (xe_str (by kernel_rfl))) (xe_sl J2.toXJ (xe_var (i := 1) rfl (.inl lk_sc_25__law_text) nd__law_text nc__law_text) (xo_some J2.toXJ (xe_var (i := 2) rfl (.inl lk_sc_25__law_at) nd__law_at nc__law_at)) xo_none)) xa_nil)))))))) (by rfl) (.inl rfl)) (ys_cons J2.toXJ (ys_set (i := 3) J2.toXJ J2.nd rfl (.inl lk_sc_25__law_found) (xe_bin J2.toXJ op_addA (by rw [← J2.toXJ.K]; exact ok_add) (xe_var (i := 3) rfl (.inl lk_sc_25__law_found) nd__law_found nc__law_found) (xe_lst J2.toXJ (xa_cons J2.toXJ (xe_bin J2.toXJ op_addA (by rw [← J2.toXJ.K]; exact ok_add) (xe_bin J2.toXJ op_addA (by rw [← J2.toXJ.K]; exact ok_add) (xe_sl J2.toXJ (xe_var (i := 1) rfl (.inl lk_sc_25__law_text) nd__law_text nc__law_text) xo_none (xo_some J2.toXJ (xe_var (i := 2) rfl (.inl lk_sc_25__law_at) nd__law_at nc__law_at))) (xe_str (by kernel_rfl))) (xe_sl J2.toXJ (xe_var (i := 1) rfl (.inl lk_sc_25__law_text) nd__law_text nc__law_text) (xo_some J2.toXJ (xe_var (i := 2) rfl (.inl lk_sc_25__law_at) nd__law_at nc__law_at)) xo_none)) (xa_cons J2.toXJ (xe_bin J2.toXJ op_addA (by rw [← J2.toXJ.K]; exact ok_add) (xe_bin J2.toXJ op_addA (by rw [← J2.toXJ.K]; exact ok_add) (xe_sl J2.toXJ (xe_var (i := 1) rfl (.inl lk_sc_25__law_text) nd__law_text nc__law_text) xo_none (xo_some J2.toXJ (xe_var (i := 2) rfl (.inl lk_sc_25__law_at) nd__law_at nc__law_at))) (xe_str (by kernel_rfl))) (xe_sl J2.toXJ (xe_var (i := 1) rfl (.inl lk_sc_25__law_text) nd__law_text nc__law_text) (xo_some J2.toXJ (xe_bin J2.toXJ op_addA (by rw [← J2.toXJ.K]; exact ok_add) (xe_var (i := 2) rfl (.inl lk_sc_25__law_at) nd__law_at nc__law_at) xe_int)) xo_none)) (xa_cons J2.toXJ (xe_bin J2.toXJ op_addA (by rw [← J2.toXJ.K]; exact ok_add) (xe_bin J2.toXJ op_addA (by rw [← J2.toXJ.K]; exact ok_add) (xe_sl J2.toXJ (xe_var (i := 1) rfl (.inl lk_sc_25__law_text) nd__law_text nc__law_text) xo_none (xo_some J2.toXJ (xe_var (i := 2) rfl (.inl lk_sc_25__law_at) nd__law_at nc__law_at))) (xe_str (by kernel_rfl))) (xe_sl J2.toXJ (xe_var (i := 1) rfl (.inl lk_sc_25__law_text) nd__law_text nc__law_text) (xo_some J2.toXJ (xe_var (i := 2) rfl (.inl lk_sc_25__law_at) nd__law_at nc__law_at)) xo_none)) xa_nil))))) (by rfl) (.inl rfl)) (ys_one (ys_ret J2.toXJ (xe_bin J2.toXJ op_addA (by rw [← J2.toXJ.K]; exact ok_add) (xe_var (i := 3) rfl (.inl lk_sc_25__law_found) nd__law_found nc__law_found) (xe_lst J2.toXJ (xa_cons J2.toXJ (xe_bin J2.toXJ op_addA (by rw [← J2.toXJ.K]; exact ok_add) (xe_bin J2.toXJ op_addA (by rw [← J2.toXJ.K]; exact ok_add) (xe_sl J2.toXJ (xe_var (i := 1) rfl (.inl lk_sc_25__law_text) nd__law_text nc__law_text) xo_none (xo_some J2.toXJ (xe_var (i := 2) rfl (.inl lk_sc_25__law_at) nd__law_at nc__law_at))) (xe_str (by kernel_rfl))) (xe_sl J2.toXJ (xe_var (i := 1) rfl (.inl lk_sc_25__law_text) nd__law_text nc__law_text) (xo_some J2.toXJ (xe_bin J2.toXJ op_addA (by rw [← J2.toXJ.K]; exact ok_add) (xe_var (i := 2) rfl (.inl lk_sc_25__law_at) nd__law_at nc__law_at) xe_int)) xo_none)) (xa_cons J2.toXJ (xe_bin J2.toXJ op_addA (by rw [← J2.toXJ.K]; exact ok_add) (xe_bin J2.toXJ op_addA (by rw [← J2.toXJ.K]; exact ok_add) (xe_sl J2.toXJ (xe_var (i := 1) rfl (.inl lk_sc_25__law_text) nd__law_text nc__law_text) xo_none (xo_some J2.toXJ (xe_var (i := 2) rfl (.inl lk_sc_25__law_at) nd__law_at nc__law_at))) (xe_str (by kernel_rfl))) (xe_sl J2.toXJ (xe_var (i := 1) rfl (.inl lk_sc_25__law_text) nd__law_text nc__law_text) (xo_some J2.toXJ (xe_bin J2.toXJ op_addA (by rw [← J2.toXJ.K]; exact ok_add) (xe_var (i := 2) rfl (.inl lk_sc_25__law_at) nd__law_at nc__law_at) xe_int)) xo_none)) (xa_cons J2.toXJ (xe_bin J2.toXJ op_addA (by rw [← J2.toXJ.K]; exact ok_add) (xe_str (by kernel_rfl)) (xe_sl J2.toXJ (xe_var (i := 1) rfl (.inl lk_sc_25__law_text) nd__law_text nc__law_text) (xo_some J2.toXJ xe_int) xo_none)) (xa_cons J2.toXJ (xe_bin J2.toXJ op_addA (by rw [← J2.toXJ.K]; exact ok_add) (xe_str (by kernel_rfl)) (xe_var (i := 1) rfl (.inl lk_sc_25__law_text) nd__law_text nc__law_text)) xa_nil)))))))))))
theorem bn_25 {K : PySem.W.Frag} {f : Addr} {fd : FuncData} (F : FunD K "_law_near" "_law_near" (defArgs (top 44)) (defBody (top 44)) (defScope (top 44)) [] [] f fd) : Binds K fd ["_law_tray_here", "_law_text"] [] := F.bindsN fun _ _ _ _ _ _ us hl => match us, hl with | [_, _], _ => rfl
theorem c_25 {P : Program} {w : World} {mg : Str → Option Value} {base : Heap} {W : Wd} (h : Wk P w mg base W) : Cal P w mg base 2 "_law_near" 2 W f__law_near := by
  obtain ⟨fd, F⟩ := h.def_ 25 _ rfl
  exact ⟨_, fd, ["_law_tray_here", "_law_text"], rfl, fn_25 h F, h.x_25, F.kp, bn_25 F⟩
theorem fn_26 {P : Program} {w : World} {mg : Str → Option Value} {base : Heap} {W : Wd} (h : Wk P w mg base W) {fd : FuncData} (F : FunD W.K "_law_is_window" "_law_is_window" (defArgs (top 45)) (defBody (top 45)) (defScope (top 45)) [] [] (He.ga W.K "_law_is_window") fd) : FnG P w W.K mg base 2 (He.ga W.K "_law_is_window") fd ["_law_value"] (spN W 1 f__law_is_window) := by
  have hc_19 := c_19 h
  refine fn_ok (N := ["_law_value"]) (d := d__law_is_window) rfl F ⟨rfl, rfl, rfl, by decide +kernel, rfl, by decide +kernel, by decide +kernel⟩ (r_law_is_window) fun cdv A outer s H E hr J2 => ?_
  exact (ys_cons J2.toXJ (ys_if J2.toXJ (xw_or J2.toXJ (xt_not J2.toXJ (xt_val J2.toXJ (xe_isi (ty := .str) J2.toXJ lk_sc_26_isinstance h.g.b_isinstance lk_sc_26_str h.g.b_str bt_str (by decide) (xe_var (i := 0) rfl (.inl lk_sc_26__law_value) nd__law_value nc__law_value) nn_str nd_str))) (xw_or J2.toXJ (xt_cmp J2.toXJ (op_neA hr.units) (by rw [← J2.toXJ.K]; exact ok_ne) (xe_callB J2.toXJ call_len (by rw [← J2.toXJ.K]; exact ok_len) lk_sc_26_len h.g.b_len bt_len (xa_cons J2.toXJ (xe_var (i := 0) rfl (.inl lk_sc_26__law_value) nd__law_value nc__law_value) xa_nil) nn_len nd_len) xe_int (nomark _)) (xw_or J2.toXJ (xt_cmp J2.toXJ (op_neA hr.units) (by rw [← J2.toXJ.K]; exact ok_ne) (xe_ix J2.toXJ (xe_var (i := 0) rfl (.inl lk_sc_26__law_value) nd__law_value nc__law_value) xe_int) (xe_str (by kernel_rfl)) (nomark _)) (xw_or1 (xt_cmp J2.toXJ (op_neA hr.units) (by rw [← J2.toXJ.K]; exact ok_ne) (xe_ix J2.toXJ (xe_var (i := 0) rfl (.inl lk_sc_26__law_value) nd__law_value nc__law_value) (xe_un J2.toXJ un_neg ok_neg xe_int)) (xe_str (by kernel_rfl)) (nomark _)))))).pt (ys_one (ys_ret J2.toXJ xe_bl)) ys_nil) (ys_one (ys_ret J2.toXJ (xe_cmp J2.toXJ op_notN ok_notN (xe_call J2 (hc_19.mono (by decide)) hr lk_sc_26__law_told (xa_cons J2.toXJ (xe_sl J2.toXJ (xe_var (i := 0) rfl (.inl lk_sc_26__law_value) nd__law_value nc__law_value) (xo_some J2.toXJ xe_int) (xo_some J2.toXJ (xe_un J2.toXJ un_neg ok_neg xe_int))) xa_nil) nd__law_told) xe_non (nomark _)))))
theorem bn_26 {K : PySem.W.Frag} {f : Addr} {fd : FuncData} (F : FunD K "_law_is_window" "_law_is_window" (defArgs (top 45)) (defBody (top 45)) (defScope (top 45)) [] [] f fd) : Binds K fd ["_law_value"] [] := F.bindsN fun _ _ _ _ _ _ us hl => match us, hl with | [_], _ => rfl
theorem c_26 {P : Program} {w : World} {mg : Str → Option Value} {base : Heap} {W : Wd} (h : Wk P w mg base W) : Cal P w mg base 2 "_law_is_window" 1 W f__law_is_window := by
  obtain ⟨fd, F⟩ := h.def_ 26 _ rfl
  exact ⟨_, fd, ["_law_value"], rfl, fn_26 h F, h.x_26, F.kp, bn_26 F⟩
theorem fn_27 {P : Program} {w : World} {mg : Str → Option Value} {base : Heap} {W : Wd} (h : Wk P w mg base W) {fd : FuncData} (F : FunD W.K "_law_odd_values" "_law_odd_values" (defArgs (top 46)) (defBody (top 46)) (defScope (top 46)) [] [] (He.ga W.K "_law_odd_values") fd) : FnG P w W.K mg base 3 (He.ga W.K "_law_odd_values") fd ["_law_tray_here"] (spN W 1 f__law_odd_values) := by
  have hc_17 := c_17 h
  refine fn_ok (N := ["_law_tray_here"]) (d := d__law_odd_values) rfl F ⟨rfl, rfl, rfl, by decide +kernel, rfl, by decide +kernel, by decide +kernel⟩ (.refl _) fun cdv A outer s H E hr J2 => ?_
  exact (ys_one (ys_ret J2.toXJ (xe_lst J2.toXJ (xa_cons J2.toXJ xe_non (xa_cons J2.toXJ xe_int (xa_cons J2.toXJ (xe_tup J2.toXJ xa_nil) (xa_cons J2.toXJ (xe_tup J2.toXJ (xa_cons J2.toXJ (xe_str (by kernel_rfl)) xa_nil)) (xa_cons J2.toXJ (xe_lst J2.toXJ (xa_cons J2.toXJ (xe_str (by kernel_rfl)) xa_nil)) (xa_cons J2.toXJ xe_dict0 (xa_cons J2.toXJ xe_bl (xa_cons J2.toXJ (xe_bin J2.toXJ op_powB ok_pow xe_int xe_int) (xa_cons J2.toXJ (xe_un J2.toXJ un_neg ok_neg xe_int) (xa_cons J2.toXJ (xe_call J2 (hc_17.mono (by decide)) hr lk_sc_27__law_some (xa_cons J2.toXJ (xe_var (i := 0) rfl (.inl lk_sc_27__law_tray_here) nd__law_tray_here nc__law_tray_here) (xa_cons J2.toXJ (xe_lst J2.toXJ (xa_cons J2.toXJ (xe_tup J2.toXJ xa_nil) (xa_cons J2.toXJ (xe_lst J2.toXJ xa_nil) (xa_cons J2.toXJ (xe_dict1 (k := [120]) (by kernel_rfl)) (xa_cons J2.toXJ (xe_tup J2.toXJ (xa_cons J2.toXJ xe_int (xa_cons J2.toXJ xe_int xa_nil))) xa_nil))))) xa_nil)) nd__law_some) xa_nil)))))))))))))
theorem bn_27 {K : PySem.W.Frag} {f : Addr} {fd : FuncData} (F : FunD K "_law_odd_values" "_law_odd_values" (defArgs (top 46)) (defBody (top 46)) (defScope (top 46)) [] [] f fd) : Binds K fd ["_law_tray_here"] [] := F.bindsN fun _ _ _ _ _ _ us hl => match us, hl with | [_], _ => rfl
theorem c_27 {P : Program} {w : World} {mg : Str → Option Value} {base : Heap} {W : Wd} (h : Wk P w mg base W) : Cal P w mg base 3 "_law_odd_values" 1 W f__law_odd_values := by
  obtain ⟨fd, F⟩ := h.def_ 27 _ rfl
  exact ⟨_, fd, ["_law_tray_here"], rfl, fn_27 h F, h.x_27, F.kp, bn_27 F⟩
theorem fn_28 {P : Program} {w : World} {mg : Str → Option Value} {base : Heap} {W : Wd} (h : Wk P w mg base W) {fd : FuncData} (F : FunD W.K "_law_right" "_law_right" (defArgs (top 47)) (defBody (top 47)) (defScope (top 47)) [] [] (He.ga W.K "_law_right") fd) : FnG P w W.K mg base 6 (He.ga W.K "_law_right") fd ["_law_tray_here"] (spN W 1 f__law_right) := by
  have hc_8 := c_8 h
  have hc_10 := c_10 h
  have hc_11 := c_11 h
  have hc_12 := c_12 h
  have hc_13 := c_13 h
  have hc_14 := c_14 h
  have hc_16 := c_16 h
  have hc_17 := c_17 h
  have hc_18 := c_18 h
  have hc_19 := c_19 h
  have hc_20 := c_20 h
  have hc_22 := c_22 h
  have hc_25 := c_25 h
  have hc_26 := c_26 h
  have hc_27 := c_27 h
  refine fn_ok (N := ["_law_tray_here", "_law_many", "_law_cells_here", "_law_text", "_law_other", "_law_forty", "_law_window_here", "_law_due", "_law_turn", "_law_cell", "_law_value"]) (d := d__law_right) rfl F ⟨rfl, rfl, rfl, by decide +kernel, rfl, by decide +kernel, by decide +kernel⟩ (.refl _) fun cdv A outer s H E hr J2 => ?_
  exact (ys_cons J2.toXJ (ys_set (i := 1) J2.toXJ J2.nd rfl (.inl lk_sc_28__law_many) (xe_call J2 (hc_17.mono (by decide)) hr lk_sc_28__law_some (xa_cons J2.toXJ (xe_var (i := 0) rfl (.inr (.inl lk_sc_28__law_tray_here)) nd__law_tray_here nc__law_tray_here) (xa_cons J2.toXJ (xe_lst J2.toXJ (xa_cons J2.toXJ xe_int (xa_cons J2.toXJ xe_int (xa_cons J2.toXJ xe_int (xa_cons J2.toXJ xe_int (xa_cons J2.toXJ xe_int (xa_cons J2.toXJ (xe_call J2 (hc_16.mono (by decide)) hr lk_sc_28__law_pluck (xa_cons J2.toXJ (xe_var (i := 0) rfl (.inr (.inl lk_sc_28__law_tray_here)) nd__law_tray_here nc__law_tray_here) (xa_cons J2.toXJ xe_int xa_nil)) nd__law_pluck) xa_nil))))))) xa_nil)) nd__law_some) (by rfl) (.inl rfl)) (ys_cons J2.toXJ (ys_set (i := 2) J2.toXJ J2.nd rfl (.inl lk_sc_28__law_cells_here) (xe_callTy J2.toXJ call_tuple_of (by rw [← J2.toXJ.K]; exact ok_tupleA) lk_sc_28_tuple h.g.b_tuple bt_tuple (xa_cons J2.toXJ (xc_lc J2  (xi_rng1 J2.toXJ lk_sc_28_range h.g.b_range (xa_cons J2.toXJ (xe_var (i := 1) rfl (.inl lk_sc_28__law_many) nd__law_many nc__law_many) xa_nil)) (own := [("_law_turn", 8)]) (by kernel_rfl) (by rfl) (fun s H C cl fp B2 => (yg_nm (i := 8) B2.nd rfl (.inl (by kernel_rfl)) (.inr (by kernel_rfl)))) (fun s H C cl fp B2 => pts_yes) (fun s H C cl fp B2 => (xe_call B2 (hc_17.mono (by decide)) hr (gl_of (by kernel_rfl)) (xa_cons B2.toXJ (xe_var (i := 0) rfl (.inr (.inl (by kernel_rfl))) nd__law_tray_here nc__law_tray_here) (xa_cons B2.toXJ (xe_lst B2.toXJ (xa_cons B2.toXJ xe_int (xa_cons B2.toXJ xe_int (xa_cons B2.toXJ xe_int (xa_cons B2.toXJ xe_int (xa_cons B2.toXJ xe_int (xa_cons B2.toXJ (xe_call B2 (hc_16.mono (by decide)) hr (gl_of (by kernel_rfl)) (xa_cons B2.toXJ (xe_var (i := 0) rfl (.inr (.inl (by kernel_rfl))) nd__law_tray_here nc__law_tray_here) (xa_cons B2.toXJ xe_int xa_nil)) nd__law_pluck) xa_nil))))))) xa_nil)) nd__law_some))) xa_nil) nn_tuple nd_tuple) (by rfl) (.inl rfl)) (ys_cons J2.toXJ (ys_set (i := 3) J2.toXJ J2.nd rfl (.inl lk_sc_28__law_text) (xe_met J2.toXJ PySem.F.plainAttrs_str PySem.F.slot_str_join PySem.F.type_str_join mt_join ty_str (by rw [← J2.toXJ.K]; exact ok_join) (xe_str (by kernel_rfl)) (xa_cons J2.toXJ (xc_lc J2  (xi_val J2.toXJ (xe_var (i := 2) rfl (.inl lk_sc_28__law_cells_here) nd__law_cells_here nc__law_cells_here)) (own := [("_law_cell", 9)]) (by kernel_rfl) (by rfl) (fun s H C cl fp B2 => (yg_nm (i := 9) B2.nd rfl (.inl (by kernel_rfl)) (.inr (by kernel_rfl)))) (fun s H C cl fp B2 => pts_yes) (fun s H C cl fp B2 => (xe_call B2 (hc_18.mono (by decide)) hr (gl_of (by kernel_rfl)) (xa_cons B2.toXJ (xe_var (i := 9) rfl (.inl (by kernel_rfl)) nd__law_cell nc__law_cell) xa_nil) nd__law_three))) xa_nil)) (by rfl) (.inl rfl)) (ys_cons J2.toXJ (ys_if J2.toXJ (xw_or J2.toXJ (xt_cmp J2.toXJ (op_neA hr.units) (by rw [← J2.toXJ.K]; exact ok_ne) (xe_call J2 (hc_11.mono (by decide)) hr lk_sc_28_cells_text (xa_cons J2.toXJ (xe_var (i := 2) rfl (.inl lk_sc_28__law_cells_here) nd__law_cells_here nc__law_cells_here) xa_nil) nd_cells_text) (xe_var (i := 3) rfl (.inl lk_sc_28__law_text) nd__law_text nc__law_text) (nomark _)) (xw_or1 (xt_cmp J2.toXJ (op_neA hr.units) (by rw [← J2.toXJ.K]; exact ok_ne) (xe_call J2 (hc_12.mono (by decide)) hr lk_sc_28_told_cells (xa_cons J2.toXJ (xe_var (i := 3) rfl (.inl lk_sc_28__law_text) nd__law_text nc__law_text) xa_nil) nd_told_cells) (xe_var (i := 2) rfl (.inl lk_sc_28__law_cells_here) nd__law_cells_here nc__law_cells_here) (nomark _)))).pt (ys_one (ys_ret J2.toXJ xe_bl)) ys_nil) (ys_cons J2.toXJ (ys_for J2 (xi_val J2.toXJ (xe_call J2 (hc_25.mono (by decide)) hr lk_sc_28__law_near (xa_cons J2.toXJ (xe_var (i := 0) rfl (.inr (.inl lk_sc_28__law_tray_here)) nd__law_tray_here nc__law_tray_here) (xa_cons J2.toXJ (xe_var (i := 3) rfl (.inl lk_sc_28__law_text) nd__law_text nc__law_text) xa_nil)) nd__law_near)) (yg_nm (i := 4) J2.nd rfl (.inl lk_sc_28__law_other) (.inl rfl)) (ys_one (ys_if J2.toXJ (xw_or J2.toXJ (xt_cmp J2.toXJ (op_neA hr.units) (by rw [← J2.toXJ.K]; exact ok_ne) (xe_call J2 (hc_12.mono (by decide)) hr lk_sc_28_told_cells (xa_cons J2.toXJ (xe_var (i := 4) rfl (.inl lk_sc_28__law_other) nd__law_other nc__law_other) xa_nil) nd_told_cells) (xe_call J2 (hc_19.mono (by decide)) hr lk_sc_28__law_told (xa_cons J2.toXJ (xe_var (i := 4) rfl (.inl lk_sc_28__law_other) nd__law_other nc__law_other) xa_nil) nd__law_told) (nomark _)) (xw_or1 (xt_not J2.toXJ (xt_val J2.toXJ (xe_call J2 (hc_8.mono (by decide)) hr lk_sc_28_is_text (xa_cons J2.toXJ (xe_var (i := 4) rfl (.inl lk_sc_28__law_other) nd__law_other nc__law_other) xa_nil) nd_is_text))))).pt (ys_one (ys_ret J2.toXJ xe_bl)) ys_nil))) (ys_cons J2.toXJ (ys_set (i := 5) J2.toXJ J2.nd rfl (.inl lk_sc_28__law_forty) (xe_call J2 (hc_22.mono (by decide)) hr lk_sc_28__law_cells (xa_cons J2.toXJ (xe_var (i := 0) rfl (.inr (.inl lk_sc_28__law_tray_here)) nd__law_tray_here nc__law_tray_here) xa_nil) nd__law_cells) (by rfl) (.inl rfl)) (ys_cons J2.toXJ (ys_set (i := 6) J2.toXJ J2.nd rfl (.inl lk_sc_28__law_window_here) (xe_call J2 (hc_20.mono (by decide)) hr lk_sc_28__law_window (xa_cons J2.toXJ (xe_var (i := 5) rfl (.inl lk_sc_28__law_forty) nd__law_forty nc__law_forty) xa_nil) nd__law_window) (by rfl) (.inl rfl)) (ys_cons J2.toXJ (ys_if J2.toXJ (xw_or J2.toXJ (xt_cmp J2.toXJ (op_neA hr.units) (by rw [← J2.toXJ.K]; exact ok_ne) (xe_call J2 (hc_13.mono (by decide)) hr lk_sc_28_window_text (xa_cons J2.toXJ (xe_var (i := 5) rfl (.inl lk_sc_28__law_forty) nd__law_forty nc__law_forty) xa_nil) nd_window_text) (xe_var (i := 6) rfl (.inl lk_sc_28__law_window_here) nd__law_window_here nc__law_window_here) (nomark _)) (xw_or1 (xt_cmp J2.toXJ (op_neA hr.units) (by rw [← J2.toXJ.K]; exact ok_ne) (xe_call J2 (hc_14.mono (by decide)) hr lk_sc_28_window_cells (xa_cons J2.toXJ (xe_var (i := 6) rfl (.inl lk_sc_28__law_window_here) nd__law_window_here nc__law_window_here) xa_nil) nd_window_cells) (xe_var (i := 5) rfl (.inl lk_sc_28__law_forty) nd__law_forty nc__law_forty) (nomark _)))).pt (ys_one (ys_ret J2.toXJ xe_bl)) ys_nil) (ys_cons J2.toXJ (ys_for J2 (xi_val J2.toXJ (xe_bin J2.toXJ op_addA (by rw [← J2.toXJ.K]; exact ok_add) (xe_call J2 (hc_25.mono (by decide)) hr lk_sc_28__law_near (xa_cons J2.toXJ (xe_var (i := 0) rfl (.inr (.inl lk_sc_28__law_tray_here)) nd__law_tray_here nc__law_tray_here) (xa_cons J2.toXJ (xe_var (i := 6) rfl (.inl lk_sc_28__law_window_here) nd__law_window_here nc__law_window_here) xa_nil)) nd__law_near) (xe_lst J2.toXJ (xa_cons J2.toXJ (xe_bin J2.toXJ op_addA (by rw [← J2.toXJ.K]; exact ok_add) (xe_sl J2.toXJ (xe_var (i := 6) rfl (.inl lk_sc_28__law_window_here) nd__law_window_here nc__law_window_here) xo_none (xo_some J2.toXJ xe_int)) (xe_str (by kernel_rfl))) (xa_cons J2.toXJ (xe_bin J2.toXJ op_addA (by rw [← J2.toXJ.K]; exact ok_add) (xe_str (by kernel_rfl)) (xe_sl J2.toXJ (xe_var (i := 6) rfl (.inl lk_sc_28__law_window_here) nd__law_window_here nc__law_window_here) (xo_some J2.toXJ xe_int) xo_none)) (xa_cons J2.toXJ (xe_bin J2.toXJ op_addA (by rw [← J2.toXJ.K]; exact ok_add) (xe_bin J2.toXJ op_addA (by rw [← J2.toXJ.K]; exact ok_add) (xe_str (by kernel_rfl)) (xe_var (i := 3) rfl (.inl lk_sc_28__law_text) nd__law_text nc__law_text)) (xe_str (by kernel_rfl))) xa_nil)))))) (yg_nm (i := 4) J2.nd rfl (.inl lk_sc_28__law_other) (.inl rfl)) (ys_cons J2.toXJ (ys_set (i := 7) J2.toXJ J2.nd rfl (.inl lk_sc_28__law_due) (xe_if J2.toXJ (xt_val J2.toXJ (xe_call J2 (hc_26.mono (by decide)) hr lk_sc_28__law_is_window (xa_cons J2.toXJ (xe_var (i := 4) rfl (.inl lk_sc_28__law_other) nd__law_other nc__law_other) xa_nil) nd__law_is_window)) (xe_call J2 (hc_19.mono (by decide)) hr lk_sc_28__law_told (xa_cons J2.toXJ (xe_sl J2.toXJ (xe_var (i := 4) rfl (.inl lk_sc_28__law_other) nd__law_other nc__law_other) (xo_some J2.toXJ xe_int) (xo_some J2.toXJ (xe_un J2.toXJ un_neg ok_neg xe_int))) xa_nil) nd__law_told) xe_non) (by rfl) (.inl rfl)) (ys_one (ys_if J2.toXJ (xw_or J2.toXJ (xt_cmp J2.toXJ (op_neA hr.units) (by rw [← J2.toXJ.K]; exact ok_ne) (xe_call J2 (hc_10.mono (by decide)) hr lk_sc_28_is_window (xa_cons J2.toXJ (xe_var (i := 4) rfl (.inl lk_sc_28__law_other) nd__law_other nc__law_other) xa_nil) nd_is_window) (xe_call J2 (hc_26.mono (by decide)) hr lk_sc_28__law_is_window (xa_cons J2.toXJ (xe_var (i := 4) rfl (.inl lk_sc_28__law_other) nd__law_other nc__law_other) xa_nil) nd__law_is_window) (nomark _)) (xw_or1 (xt_cmp J2.toXJ (op_neA hr.units) (by rw [← J2.toXJ.K]; exact ok_ne) (xe_call J2 (hc_14.mono (by decide)) hr lk_sc_28_window_cells (xa_cons J2.toXJ (xe_var (i := 4) rfl (.inl lk_sc_28__law_other) nd__law_other nc__law_other) xa_nil) nd_window_cells) (xe_var (i := 7) rfl (.inl lk_sc_28__law_due) nd__law_due nc__law_due) (nomark _)))).pt (ys_one (ys_ret J2.toXJ xe_bl)) ys_nil)))) (ys_one (ys_ret J2.toXJ (xe_cmp J2.toXJ (op_eqA hr.units) (by rw [← J2.toXJ.K]; exact ok_eq) (xc_lc J2  (xi_val J2.toXJ (xe_call J2 (hc_27.mono (by decide)) hr lk_sc_28__law_odd_values (xa_cons J2.toXJ (xe_var (i := 0) rfl (.inr (.inl lk_sc_28__law_tray_here)) nd__law_tray_here nc__law_tray_here) xa_nil) nd__law_odd_values)) (own := [("_law_value", 10)]) (by kernel_rfl) (by rfl) (fun s H C cl fp B2 => (yg_nm (i := 10) B2.nd rfl (.inl (by kernel_rfl)) (.inr (by kernel_rfl)))) (fun s H C cl fp B2 => (pts_of (xw_or B2.toXJ (xt_val B2.toXJ (xe_call B2 (hc_8.mono (by decide)) hr (gl_of (by kernel_rfl)) (xa_cons B2.toXJ (xe_var (i := 10) rfl (.inl (by kernel_rfl)) nd__law_value nc__law_value) xa_nil) nd_is_text)) (xw_or1 (xt_val B2.toXJ (xe_call B2 (hc_10.mono (by decide)) hr (gl_of (by kernel_rfl)) (xa_cons B2.toXJ (xe_var (i := 10) rfl (.inl (by kernel_rfl)) nd__law_value nc__law_value) xa_nil) nd_is_window)))).pt)) (fun s H C cl fp B2 => (xe_var (i := 10) rfl (.inl (by kernel_rfl)) nd__law_value nc__law_value))) (xe_lst J2.toXJ xa_nil) (nomark _)))))))))))))
theorem bn_28 {K : PySem.W.Frag} {f : Addr} {fd : FuncData} (F : FunD K "_law_right" "_law_right" (defArgs (top 47)) (defBody (top 47)) (defScope (top 47)) [] [] f fd) : Binds K fd ["_law_tray_here"] [] := F.bindsN fun _ _ _ _ _ _ us hl => match us, hl with | [_], _ => rfl
theorem c_28 {P : Program} {w : World} {mg : Str → Option Value} {base : Heap} {W : Wd} (h : Wk P w mg base W) : Cal P w mg base 6 "_law_right" 1 W f__law_right := by
  obtain ⟨fd, F⟩ := h.def_ 28 _ rfl
  exact ⟨_, fd, ["_law_tray_here"], rfl, fn_28 h F, h.x_28, F.kp, bn_28 F⟩
theorem fn_29 {P : Program} {w : World} {mg : Str → Option Value} {base : Heap} {W : Wd} (h : Wk P w mg base W) {fd : FuncData} (F : FunD W.K "law" "law" (defArgs (top 48)) (defBody (top 48)) (defScope (top 48)) [] [] (He.ga W.K "law") fd) : FnG P w W.K mg base 7 (He.ga W.K "law") fd ["_law_script"] (spN W 1 f_law) := by
  have hc_8 := c_8 h
  have hc_11 := c_11 h
  have hc_12 := c_12 h
  have hc_15 := c_15 h
  have hc_28 := c_28 h
  refine fn_ok (N := ["_law_script", "_law_spot", "_law_told_here", "_law_tray_here", "_law_turn"]) (d := d_law) rfl F ⟨rfl, rfl, rfl, by decide +kernel, rfl, by decide +kernel, by decide +kernel⟩ (.refl _) fun cdv A outer s H E hr J2 => ?_
  exact (ys_cons J2.toXJ (ys_for J2 (xi_rng1 J2.toXJ lk_sc_29_range h.g.b_range (xa_cons J2.toXJ (xe_callB J2.toXJ (CallR.or (call_max2 J2.cm) (cr_max J2.cm)) (by rw [← J2.toXJ.K]; exact ok_max) lk_sc_29_max h.g.b_max bt_max (xa_cons J2.toXJ xe_int (xa_cons J2.toXJ (xe_callB J2.toXJ (CallR.or (call_min2 J2.cm) (cr_min J2.cm)) (by rw [← J2.toXJ.K]; exact ok_min) lk_sc_29_min h.g.b_min bt_min (xa_cons J2.toXJ xe_int (xa_cons J2.toXJ (xe_callB J2.toXJ call_len (by rw [← J2.toXJ.K]; exact ok_len) lk_sc_29_len h.g.b_len bt_len (xa_cons J2.toXJ (xe_var (i := 0) rfl (.inl lk_sc_29__law_script) nd__law_script nc__law_script) xa_nil) nn_len nd_len) xa_nil)) nn_min nd_min) xa_nil)) nn_max nd_max) xa_nil)) (yg_nm (i := 1) J2.nd rfl (.inl lk_sc_29__law_spot) (.inl rfl)) (ys_cons J2.toXJ (ys_set (i := 3) J2.toXJ J2.nd rfl (.inl lk_sc_29__law_tray_here) (xe_call J2 (hc_15.mono (by decide)) hr lk_sc_29__law_tray (xa_cons J2.toXJ (xe_var (i := 0) rfl (.inl lk_sc_29__law_script) nd__law_script nc__law_script) (xa_cons J2.toXJ (xe_var (i := 1) rfl (.inl lk_sc_29__law_spot) nd__law_spot nc__law_spot) xa_nil)) nd__law_tray) (by rfl) (.inl rfl)) (ys_one (ys_for J2 (xi_rng1 J2.toXJ lk_sc_29_range h.g.b_range (xa_cons J2.toXJ xe_int xa_nil)) (yg_nm (i := 4) J2.nd rfl (.inl lk_sc_29__law_turn) (.inl rfl)) (ys_one (ys_if J2.toXJ (xt_not J2.toXJ (xt_val J2.toXJ (xe_call J2 (hc_28.mono (by decide)) hr lk_sc_29__law_right (xa_cons J2.toXJ (xe_var (i := 3) rfl (.inl lk_sc_29__law_tray_here) nd__law_tray_here nc__law_tray_here) xa_nil) nd__law_right))) (ys_one (ys_ret J2.toXJ xe_bl)) ys_nil)))))) (ys_cons J2.toXJ (ys_set (i := 2) J2.toXJ J2.nd rfl (.inl lk_sc_29__law_told_here) (xe_lst J2.toXJ (xa_cons J2.toXJ (xe_call J2 (hc_11.mono (by decide)) hr lk_sc_29_cells_text (xa_cons J2.toXJ (xe_tup J2.toXJ (xa_cons J2.toXJ xe_int (xa_cons J2.toXJ xe_int (xa_cons J2.toXJ xe_int xa_nil)))) xa_nil) nd_cells_text) (xa_cons J2.toXJ (xe_call J2 (hc_12.mono (by decide)) hr lk_sc_29_told_cells (xa_cons J2.toXJ (xe_str (by kernel_rfl)) xa_nil) nd_told_cells) (xa_cons J2.toXJ (xe_call J2 (hc_12.mono (by decide)) hr lk_sc_29_told_cells (xa_cons J2.toXJ (xe_str (by kernel_rfl)) xa_nil) nd_told_cells) (xa_cons J2.toXJ (xe_call J2 (hc_12.mono (by decide)) hr lk_sc_29_told_cells (xa_cons J2.toXJ (xe_str (by kernel_rfl)) xa_nil) nd_told_cells) (xa_cons J2.toXJ (xe_call J2 (hc_12.mono (by decide)) hr lk_sc_29_told_cells (xa_cons J2.toXJ (xe_str (by kernel_rfl)) xa_nil) nd_told_cells) xa_nil)))))) (by rfl) (.inl rfl)) (ys_cons J2.toXJ (ys_if J2.toXJ (xw_or J2.toXJ (xt_cmp J2.toXJ (op_neA hr.units) (by rw [← J2.toXJ.K]; exact ok_ne) (xe_var (i := 2) rfl (.inl lk_sc_29__law_told_here) nd__law_told_here nc__law_told_here) (xe_lst J2.toXJ (xa_cons J2.toXJ (xe_str (by kernel_rfl)) (xa_cons J2.toXJ (xe_tup J2.toXJ (xa_cons J2.toXJ xe_int (xa_cons J2.toXJ xe_int (xa_cons J2.toXJ xe_int xa_nil)))) (xa_cons J2.toXJ xe_non (xa_cons J2.toXJ xe_non (xa_cons J2.toXJ (xe_tup J2.toXJ xa_nil) xa_nil)))))) (nomark _)) (xw_or J2.toXJ (xt_not J2.toXJ (xt_val J2.toXJ (xe_call J2 (hc_8.mono (by decide)) hr lk_sc_29_is_text (xa_cons J2.toXJ (xe_str (by kernel_rfl)) xa_nil) nd_is_text))) (xw_or1 (xt_not J2.toXJ (xt_val J2.toXJ (xe_call J2 (hc_8.mono (by decide)) hr lk_sc_29_is_text (xa_cons J2.toXJ (xe_bin J2.toXJ op_mulA (by rw [← J2.toXJ.K]; exact ok_mul) (xe_str (by kernel_rfl)) xe_int) xa_nil) nd_is_text)))))).pt (ys_one (ys_ret J2.toXJ xe_bl)) ys_nil) (ys_one (ys_ret J2.toXJ (xe_cmp J2.toXJ (op_eqA hr.units) (by rw [← J2.toXJ.K]; exact ok_eq) (xe_call J2 (hc_12.mono (by decide)) hr lk_sc_29_told_cells (xa_cons J2.toXJ (xe_bin J2.toXJ op_mulA (by rw [← J2.toXJ.K]; exact ok_mul) (xe_str (by kernel_rfl)) xe_int) xa_nil) nd_told_cells) (xe_bin J2.toXJ op_mulA (by rw [← J2.toXJ.K]; exact ok_mul) (xe_tup J2.toXJ (xa_cons J2.toXJ xe_int xa_nil)) xe_int) (nomark _)))))))
theorem bn_29 {K : PySem.W.Frag} {f : Addr} {fd : FuncData} (F : FunD K "law" "law" (defArgs (top 48)) (defBody (top 48)) (defScope (top 48)) [] [] f fd) : Binds K fd ["_law_script"] [] := F.bindsN fun _ _ _ _ _ _ us hl => match us, hl with | [_], _ => rfl
theorem c_29 {P : Program} {w : World} {mg : Str → Option Value} {base : Heap} {W : Wd} (h : Wk P w mg base W) : Cal P w mg base 7 "law" 1 W f_law := by
  obtain ⟨fd, F⟩ := h.def_ 29 _ rfl
  exact ⟨_, fd, ["_law_script"], rfl, fn_29 h F, h.x_29, F.kp, bn_29 F⟩
abbrev R : PySem.W.OpenRow := PySem.W.OpenLaw.row PySem.Challenge.rw_stillread_k09_whole_digits_of_cells
def ex (_ : PySem.W.Frag) : Bool := true
abbrev hk : PySem.W.Hook := He.hookX 4 fa fn [] [] ex
def ob (s : PySem.W.SharedT) : He.AlX := He.obsX 4 fa fn [] [] ex (HandSHeadRun.getT s)
theorem ob_eq (s : PySem.W.SharedT) : ob s = hk.obs s.abs := He.obsX_eq (HandSHeadRun.getT_eq s)
theorem run (w : World) : HandSHeadRun.RunEq R (PySem.W.view R.prog [48]) hk ob 2000 [("__name__" : PySem.Str), ("StillError" : PySem.Str), ("InvalidText" : PySem.Str), ("InvalidCells" : PySem.Str), ("PRIME" : PySem.Str), ("MAX_CELL" : PySem.Str), ("is_whole" : PySem.Str), ("is_within" : PySem.Str), ("is_cell" : PySem.Str), ("are_cells_in" : PySem.Str), ("is_cells" : PySem.Str), ("MOST_SIGNS" : PySem.Str), ("WINDOW_SIGNS" : PySem.Str), ("WINDOW_CELLS" : PySem.Str), ("MOST_DIGITS" : PySem.Str), ("DIGITS" : PySem.Str), ("FIGURES" : PySem.Str), ("BEGIN" : PySem.Str), ("END" : PySem.Str), ("LEAST_SIGN" : PySem.Str), ("GREATEST_SIGN" : PySem.Str), ("text_in" : PySem.Str), ("cells_told" : PySem.Str), ("window_at" : PySem.Str), ("is_text" : PySem.Str), ("require_text" : PySem.Str), ("is_window" : PySem.Str), ("cells_text" : PySem.Str), ("told_cells" : PySem.Str), ("window_text" : PySem.Str), ("window_cells" : PySem.Str), ("_law_tray" : PySem.Str), ("_law_pluck" : PySem.Str), ("_law_some" : PySem.Str), ("_law_three" : PySem.Str), ("_law_told" : PySem.Str), ("_law_window" : PySem.Str), ("_law_windows" : PySem.Str), ("_law_cells" : PySem.Str), ("_law_bit" : PySem.Str), ("_law_drawn" : PySem.Str), ("_law_near" : PySem.Str), ("_law_is_window" : PySem.Str), ("_law_odd_values" : PySem.Str), ("_law_right" : PySem.Str)] w := by
  intro os
  kernel_rfl
theorem facts (PL : Plain f_law) {w : World} {K : PySem.W.Frag} {h : Heap} {mg : Str → Option Value} {f : Addr} (X : K.In h) (G : h.Ns mainGlobals mg) (c : He.SaysX fa fn [] [] ex w h K) (hf : mg ("law" : Str) = some (.ref f)) : LawG PySem.Challenge.rw_stillread_k09_whole_digits_of_cells w K 7 63 "_law_script" mg f h := by
  have d := c.t.d
  have g : Gs mg := ⟨He.free_ok X G (d.fact 30 (f := .free "abs")), He.free_ok X G (d.fact 31 (f := .free "all")), He.free_ok X G (d.fact 32 (f := .free "bool")), He.free_ok X G (d.fact 33 (f := .free "int")), He.free_ok X G (d.fact 34 (f := .free "isinstance")), He.free_ok X G (d.fact 35 (f := .free "len")), He.free_ok X G (d.fact 36 (f := .free "max")), He.free_ok X G (d.fact 37 (f := .free "min")), He.free_ok X G (d.fact 38 (f := .free "range")), He.free_ok X G (d.fact 39 (f := .free "str")), He.free_ok X G (d.fact 40 (f := .free "tuple")), He.str_ok X G (d.fact 41), He.int_ok X G (d.fact 42), He.str_ok X G (d.fact 43), He.str_ok X G (d.fact 44), He.str_ok X G (d.fact 45), He.str_ok X G (d.fact 46), He.int_ok X G (d.fact 47), He.int_ok X G (d.fact 48), He.int_ok X G (d.fact 49), He.int_ok X G (d.fact 50), He.int_ok X G (d.fact 51), He.int_ok X G (d.fact 52)⟩
  have k : ∀ base, Wk (PySem.Challenge.rw_stillread_k09_whole_digits_of_cells).prog w mg base (W0 K) := fun base => ⟨g, fun i d0 hi => d.def_ i hi, He.glo_ok X G (d.fact 0 (f := .glo "is_whole")), He.glo_ok X G (d.fact 1 (f := .glo "is_within")), He.glo_ok X G (d.fact 2 (f := .glo "is_cell")), He.glo_ok X G (d.fact 3 (f := .glo "are_cells_in")), He.glo_ok X G (d.fact 4 (f := .glo "is_cells")), He.glo_ok X G (d.fact 5 (f := .glo "text_in")), He.glo_ok X G (d.fact 6 (f := .glo "cells_told")), He.glo_ok X G (d.fact 7 (f := .glo "window_at")), He.glo_ok X G (d.fact 8 (f := .glo "is_text")), He.glo_ok X G (d.fact 9 (f := .glo "require_text")), He.glo_ok X G (d.fact 10 (f := .glo "is_window")), He.glo_ok X G (d.fact 11 (f := .glo "cells_text")), He.glo_ok X G (d.fact 12 (f := .glo "told_cells")), He.glo_ok X G (d.fact 13 (f := .glo "window_text")), He.glo_ok X G (d.fact 14 (f := .glo "window_cells")), He.glo_ok X G (d.fact 15 (f := .glo "_law_tray")), He.glo_ok X G (d.fact 16 (f := .glo "_law_pluck")), He.glo_ok X G (d.fact 17 (f := .glo "_law_some")), He.glo_ok X G (d.fact 18 (f := .glo "_law_three")), He.glo_ok X G (d.fact 19 (f := .glo "_law_told")), He.glo_ok X G (d.fact 20 (f := .glo "_law_window")), He.glo_ok X G (d.fact 21 (f := .glo "_law_windows")), He.glo_ok X G (d.fact 22 (f := .glo "_law_cells")), He.glo_ok X G (d.fact 23 (f := .glo "_law_bit")), He.glo_ok X G (d.fact 24 (f := .glo "_law_drawn")), He.glo_ok X G (d.fact 25 (f := .glo "_law_near")), He.glo_ok X G (d.fact 26 (f := .glo "_law_is_window")), He.glo_ok X G (d.fact 27 (f := .glo "_law_odd_values")), He.glo_ok X G (d.fact 28 (f := .glo "_law_right")), He.glo_ok X G (d.fact 29 (f := .glo "law"))⟩
  obtain ⟨fd, F⟩ := d.def_ 29 (d := dD 48 "law")
  have e := hf.symm.trans (k h).x_29
  cases e
  exact lawG0 PL (fun s v => F.bindsA (ps := ["_law_script"]) (fun _ _ _ _ _ _ us hl => match us, hl with | [_], _ => rfl) s [v] rfl) fun base _ _ => fn_29 (k base) F

end K09
open PySem PySem.W PySem.Calls PyProof.Rows
theorem PySem.Challenge.cw_stillread_k09_whole_digits_of_cells_holds : PySem.Challenge.rw_stillread_k09_whole_digits_of_cells.Holds := by
  w_on; o_law
  refine HandSHeadRun.head_any (r := OpenLaw.row PySem.Challenge.rw_stillread_k09_whole_digits_of_cells) (q := view (OpenLaw.row PySem.Challenge.rw_stillread_k09_whole_digits_of_cells).prog [48]) (H := K09.hk) (ob := K09.ob) (M := 2000) (loose := [("__name__" : PySem.Str), ("StillError" : PySem.Str), ("InvalidText" : PySem.Str), ("InvalidCells" : PySem.Str), ("PRIME" : PySem.Str), ("MAX_CELL" : PySem.Str), ("is_whole" : PySem.Str), ("is_within" : PySem.Str), ("is_cell" : PySem.Str), ("are_cells_in" : PySem.Str), ("is_cells" : PySem.Str), ("MOST_SIGNS" : PySem.Str), ("WINDOW_SIGNS" : PySem.Str), ("WINDOW_CELLS" : PySem.Str), ("MOST_DIGITS" : PySem.Str), ("DIGITS" : PySem.Str), ("FIGURES" : PySem.Str), ("BEGIN" : PySem.Str), ("END" : PySem.Str), ("LEAST_SIGN" : PySem.Str), ("GREATEST_SIGN" : PySem.Str), ("text_in" : PySem.Str), ("cells_told" : PySem.Str), ("window_at" : PySem.Str), ("is_text" : PySem.Str), ("require_text" : PySem.Str), ("is_window" : PySem.Str), ("cells_text" : PySem.Str), ("told_cells" : PySem.Str), ("window_text" : PySem.Str), ("window_cells" : PySem.Str), ("_law_tray" : PySem.Str), ("_law_pluck" : PySem.Str), ("_law_some" : PySem.Str), ("_law_three" : PySem.Str), ("_law_told" : PySem.Str), ("_law_window" : PySem.Str), ("_law_windows" : PySem.Str), ("_law_cells" : PySem.Str), ("_law_bit" : PySem.Str), ("_law_drawn" : PySem.Str), ("_law_near" : PySem.Str), ("_law_is_window" : PySem.Str), ("_law_odd_values" : PySem.Str), ("_law_right" : PySem.Str)]) (d := HandSHeadRun.topDef (OpenLaw.row PySem.Challenge.rw_stillread_k09_whole_digits_of_cells).prog 48) (kwd := []) K09.ob_eq
    (by kernel_rfl) (fun s => by kernel_rfl) K09.run (by kernel_rfl) (by kernel_rfl) (by kernel_rfl) (by rfl) (by first | assumption | decide +kernel) (by decide +kernel) ⟨rfl, rfl, rfl, rfl, rfl, by decide +kernel⟩ ?hw ?hc
  case hw => w_witness2
  case hc =>
    refine Mi.walk_G (l := PySem.Challenge.rw_stillread_k09_whole_digits_of_cells) (n := 63) (k := 7) (x := "_law_script") rfl (by decide) (by kernel_rfl) ⟨rfl, by decide, by decide⟩ ?F
    intro w mg fa h Y G hmg0
    obtain ⟨K, KX, c⟩ := Y
    have hmg : mg ("law" : PySem.Str) = some (.ref fa) := by
      have e : (HandSHeadRun.topDef (OpenLaw.row PySem.Challenge.rw_stillread_k09_whole_digits_of_cells).prog 48).name = ("law" : PySem.Str) := by kernel_rfl
      rw [← e]
      exact hmg0
    exact ⟨K, KX, K09.facts K09.plain KX G c hmg⟩
end
