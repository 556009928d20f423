import PyProof.Rows.All
import Wide.All
import OpenK.AllK
import Wide.FinOn
import HandS.ForMost
import HandS.Exc
import HandS.TryMany
import HandS.Lambda
import HandS.CallSlots
import HandS.CallLocal
import HandS.Deep
import HandS.TupAny
import HandS.Wide
import HandS.Codes
import HandS.IsInst
import HandS.WordsDict
import HandS.StrMore
import HandS.Replace
import HandS.TupMul
import PyProof.StrBlock2
import HandS.Flow
import HandS.ExcOwn
import HandS.Iter
import KE.GoesNew
import KE.GoesMore
import HandS.Defaults
import HandS.EndTab
import HandS.HeadWalk
import HandS.RaiseMore
import HandS.SortInts
import HandS.SortRule
import HandS.Sort
import HandS.TupSets
import HandS.FStr
import HandS.Zip
import HandS.Dict
import Wide.Txt
import HandS.More
import HandS.Style
import PyProof.FString3
import PyProof.SliceStr2
import PyProof.Rows.StrIntSpec
import HandS.ExcField
import HandS.ExcInit
import KE.KExcSuper
import KE.KExcInit
import HandS.HeadHook4
import HandS.Small
import HandS.NoneIn
import HandS.DictComp
import HandS.Star
import HandS.Conv
import HandS.SetFor
import HandS.TryOnly
import HandS.OwnEq
import HandS.Head2
import PySem.Challenge.RW_stillread_k15_errors_of_frames
set_option Elab.async false
set_option linter.all false
section
set_option maxRecDepth 100000
set_option maxHeartbeats 4000000
/-! MiCore: pure values, a store, results; their relation to the layer's abstract heap; readings of combinators. -/
namespace Mi
open PySem PySem.Spec PyProof.Rows L2

/-! ### pure values -/
/-- a value by what it is: tuples whole, lists and dicts by their place in the store, defs by a number -/
inductive PV where
  | non | bl (b : Bool) | int (i : Int) | str (x : List Nat) | tup (xs : List PV) | ref (n : Nat) | fn (f : Nat) | thk
instance : Inhabited PV := ⟨.non⟩
/-- what stands in the store -/
inductive SO where
  | lst (xs : List PV)
  | dct (kvs : List (Key × PV))
  | fz (xs : List PV)
  | dlk (kvs : List (Key × PV))
abbrev Sto := List SO
/-- an exception: its class's number, its own field -/
structure Ex where
  cls : Nat
  fld : Option (Str × PV)
inductive Res (α : Type) where
  | ok (a : α) (st : Sto)
  | exc (e : Ex) (st : Sto)
  | bad
abbrev Env := List (Option PV)
inductive RS where
  | nx (env : Env) (st : Sto)
  | rt (v : PV) (st : Sto)
  | bk (env : Env) (st : Sto)
  | ct (env : Env) (st : Sto)
  | exc (e : Ex) (env : Env) (st : Sto)
  | bad
abbrev Th := Sto → Res PV
/-- what a piece of syntax does -/
abbrev Dn (α : Type) := Th → Env → Sto → Res α
abbrev DE := Dn PV
abbrev DB := Dn Bool
abbrev DL := Dn (List PV)
abbrev DS := Th → Env → Sto → RS
def Res.bind {α β : Type} : Res α → (α → Sto → Res β) → Res β
  | .ok a st, f => f a st
  | .exc e st, _ => .exc e st
  | .bad, _ => .bad

/-! ### the relation -/
structure Wd where
  K : PySem.W.Frag
  fa : Nat → Option Addr
  ca : Nat → Option Value
  th : Addr
  T : List (Addr × Str)
mutual
def RV (W : Wd) (H : Hp) (ρ : Nat → Addr) (n : Nat) : PV → V → Prop
  | .non, x => x = .non
  | .bl b, x => x = .bl b
  | .int i, x => x = .int i
  | .str s, x => x = .str ⟨s.toArray⟩
  | .tup xs, x => ∃ a vs, x = .ref a ∧ SqT W.K H a vs ∧ RVs W H ρ n xs vs
  | .ref k, x => k < n ∧ x = .ref (ρ k)
  | .fn f, x => ∃ a, W.fa f = some a ∧ x = .ref a
  | .thk, x => x = .ref W.th
def RVs (W : Wd) (H : Hp) (ρ : Nat → Addr) (n : Nat) : List PV → List V → Prop
  | [], vs => vs = []
  | p :: ps, vs => ∃ v r, vs = v :: r ∧ RV W H ρ n p v ∧ RVs W H ρ n ps r
end
/-- tuples and what is locked stay -/
structure HX (H H' : Hp) : Prop where
  tup : ∀ b xs, H b = some (.tup xs) → H' b = some (.tup xs)
  frz : ∀ b o u, H b = some (.frz o u) → H' b = some (.frz o u)
theorem HX.refl (H : Hp) : HX H H := ⟨fun _ _ h => h, fun _ _ _ h => h⟩
theorem HX.trans {H H1 H2 : Hp} (a : HX H H1) (b : HX H1 H2) : HX H H2 := ⟨fun c xs h => b.tup c xs (a.tup c xs h), fun c o u h => b.frz c o u (a.frz c o u h)⟩
theorem HX.sqT {K : PySem.W.Frag} {H H' : Hp} (x : HX H H') {a : Addr} {vs : List V} (h : SqT K H a vs) : SqT K H' a vs := by
  rcases h with (h | ⟨o, h⟩) | h
  · exact .inl (.inl (x.tup _ _ h))
  · exact .inl (.inr ⟨o, x.frz _ _ _ h⟩)
  · exact .inr h
theorem HX.new {H : Hp} {p : Addr} {o : HO} (h : H p = none) : HX H (upd H p o) :=
  ⟨fun b xs e => by rw [upd_ne (ne_of_none e h)]; exact e, fun b ob u e => by rw [upd_ne (ne_of_none e h)]; exact e⟩
/-- an object that is written: neither a tuple nor locked -/
theorem HX.mut {H : Hp} {p : Addr} {o u : HO} (h : H p = some u) (h1 : ∀ xs, u ≠ .tup xs) (h2 : ∀ ob w, u ≠ .frz ob w) : HX H (upd H p o) :=
  ⟨fun b xs e => by rw [upd_ne (ne_of e h (fun z => h1 xs z.symm))]; exact e, fun b ob w e => by rw [upd_ne (ne_of e h (fun z => h2 ob w z.symm))]; exact e⟩
def Agr (n : Nat) (ρ ρ' : Nat → Addr) : Prop := ∀ i, i < n → ρ' i = ρ i
theorem Agr.refl (n : Nat) (ρ : Nat → Addr) : Agr n ρ ρ := fun _ _ => rfl

section
variable {W : Wd} {H H' : Hp} {ρ ρ' : Nat → Addr} {n n' : Nat}
mutual
theorem RV.mono (x : HX H H') (ag : Agr n ρ ρ') (le : n ≤ n') : ∀ (p : PV) (v : V), RV W H ρ n p v → RV W H' ρ' n' p v
  | .non, _, h => h
  | .bl _, _, h => h
  | .int _, _, h => h
  | .str _, _, h => h
  | .tup xs, _, ⟨a, vs, e, s, r⟩ => ⟨a, vs, e, x.sqT s, RVs.mono x ag le xs vs r⟩
  | .ref k, _, ⟨l, e⟩ => ⟨Nat.lt_of_lt_of_le l le, by rw [ag k l]; exact e⟩
  | .fn _, _, h => h
  | .thk, _, h => h
theorem RVs.mono (x : HX H H') (ag : Agr n ρ ρ') (le : n ≤ n') : ∀ (ps : List PV) (vs : List V), RVs W H ρ n ps vs → RVs W H' ρ' n' ps vs
  | [], _, h => h
  | p :: ps, _, ⟨v, r, e, h, t⟩ => ⟨v, r, e, RV.mono x ag le p v h, RVs.mono x ag le ps r t⟩
end
theorem RVs.length : ∀ {ps : List PV} {vs : List V}, RVs W H ρ n ps vs → ps.length = vs.length
  | [], _, h => by
    have h : _ = [] := h
    rw [h] <;> rfl
  | _ :: ps, _, ⟨v, r, e, _, t⟩ => by rw [e, List.length_cons, List.length_cons, RVs.length t]
theorem RVs.get : ∀ {ps : List PV} {vs : List V} {i : Nat} {p : PV}, RVs W H ρ n ps vs → ps[i]? = some p → ∃ v, vs[i]? = some v ∧ RV W H ρ n p v
  | [], _, _, _, _, e => by simp at e
  | _ :: _, _, 0, _, ⟨v, r, e1, h, t⟩, e => by
    simp at e
    subst e e1
    exact ⟨v, rfl, h⟩
  | _ :: _, _, i + 1, _, ⟨v, r, e1, h, t⟩, e => by
    subst e1
    obtain ⟨v', h1, h2⟩ := RVs.get (i := i) t (by simpa using e)
    exact ⟨v', by simpa using h1, h2⟩
theorem RVs.set {p : PV} {v : V} (hp : RV W H ρ n p v) : ∀ {ps : List PV} {vs : List V} (i : Nat), RVs W H ρ n ps vs → RVs W H ρ n (ps.set i p) (vs.set i v)
  | [], _, _, h => by
    have h : _ = [] := h
    subst h
    exact rfl
  | _ :: _, _, 0, ⟨w, r, e, h, t⟩ => by
    subst e
    exact ⟨v, r, rfl, hp, t⟩
  | _ :: _, _, i + 1, ⟨w, r, e, h, t⟩ => by
    subst e
    exact ⟨w, _, rfl, h, RVs.set hp i t⟩
theorem RVs.append : ∀ {ps qs : List PV} {vs us : List V}, RVs W H ρ n ps vs → RVs W H ρ n qs us → RVs W H ρ n (ps ++ qs) (vs ++ us)
  | [], _, _, _, h, t => by
    have h : _ = [] := h
    subst h
    exact t
  | _ :: _, _, _, _, ⟨w, r, e, h, t⟩, q => by
    subst e
    exact ⟨w, _, rfl, h, RVs.append t q⟩
theorem RVs.take : ∀ {ps : List PV} {vs : List V} (k : Nat), RVs W H ρ n ps vs → RVs W H ρ n (ps.take k) (vs.take k)
  | [], _, k, h => by
    have h : _ = [] := h
    subst h
    cases k <;> exact rfl
  | _ :: _, _, 0, _ => rfl
  | _ :: _, _, k + 1, ⟨w, r, e, h, t⟩ => by
    subst e
    exact ⟨w, _, rfl, h, RVs.take k t⟩
theorem RVs.drop : ∀ {ps : List PV} {vs : List V} (k : Nat), RVs W H ρ n ps vs → RVs W H ρ n (ps.drop k) (vs.drop k)
  | [], _, k, h => by
    have h : _ = [] := h
    subst h
    cases k <;> exact rfl
  | _ :: _, _, 0, h => h
  | _ :: _, _, k + 1, ⟨w, r, e, h, t⟩ => by
    subst e
    exact RVs.drop k t
theorem RVs.one {p : PV} {vs : List V} (h : RVs W H ρ n [p] vs) : ∃ v, vs = [v] ∧ RV W H ρ n p v := by
  obtain ⟨v, r, e, h, t⟩ := h
  have t : r = [] := t
  subst e t
  exact ⟨v, rfl, h⟩
theorem RVs.two {p q : PV} {vs : List V} (h : RVs W H ρ n [p, q] vs) : ∃ v w, vs = [v, w] ∧ RV W H ρ n p v ∧ RV W H ρ n q w := by
  obtain ⟨v, r, e, h, t⟩ := h
  obtain ⟨w, rfl, h2⟩ := RVs.one t
  exact ⟨v, w, e, h, h2⟩
theorem RVs.nil {vs : List V} (h : RVs W H ρ n [] vs) : vs = [] := h
theorem RVs.three {p q u : PV} {vs : List V} (h : RVs W H ρ n [p, q, u] vs) : ∃ v w x, vs = [v, w, x] ∧ RV W H ρ n p v ∧ RV W H ρ n q w ∧ RV W H ρ n u x := by
  obtain ⟨v, r, e, h, t⟩ := h
  obtain ⟨w, x, rfl, h2, h3⟩ := RVs.two t
  exact ⟨v, w, x, e, h, h2, h3⟩
end

/-- the pairs of a dict -/
def RKs (W : Wd) (H : Hp) (ρ : Nat → Addr) (n : Nat) : List (Key × PV) → List (Key × V) → Prop
  | [], vs => vs = []
  | (k, p) :: ps, vs => ∃ v r, vs = (k, v) :: r ∧ RV W H ρ n p v ∧ RKs W H ρ n ps r
theorem RKs.mono {W : Wd} {H H' : Hp} {ρ ρ' : Nat → Addr} {n n' : Nat} (x : HX H H') (ag : Agr n ρ ρ') (le : n ≤ n') : ∀ (ps : List (Key × PV)) (vs : List (Key × V)), RKs W H ρ n ps vs → RKs W H' ρ' n' ps vs
  | [], _, h => h
  | (k, p) :: ps, _, ⟨v, r, e, h, t⟩ => ⟨v, r, e, h.mono x ag le, RKs.mono x ag le ps r t⟩
/-- a list that nobody writes -/
def FzL (K : PySem.W.Frag) (H : Hp) (a : Addr) (vs : List V) : Prop :=
  (∃ o, H a = some (.frz o (.lst vs))) ∨ ∃ (o : Obj) (its : Array Value) (n : Nat), K.lookup a = some o ∧ o.cls = .type "list" ∧ o.dict = none ∧ o.data = .seq its n ∧ its.size ≤ sizeLine ∧ Vals vs its.toList
theorem FzL.sq {K : PySem.W.Frag} {H : Hp} {a : Addr} {vs : List V} (h : FzL K H a vs) : SqL K H a vs := by
  rcases h with ⟨o, h⟩ | h
  · exact .inl (.inr ⟨o, h⟩)
  · exact .inr h
theorem FzL.mono {K : PySem.W.Frag} {H H' : Hp} {a : Addr} {vs : List V} (x : HX H H') (h : FzL K H a vs) : FzL K H' a vs := by
  rcases h with ⟨o, h⟩ | h
  · exact .inl ⟨o, x.frz _ _ _ h⟩
  · exact .inr h
/-- an object of the store stands at a -/
def RO (W : Wd) (H : Hp) (ρ : Nat → Addr) (n : Nat) : SO → Addr → Prop
  | .lst xs, a => ∃ vs, H a = some (.lst vs) ∧ RVs W H ρ n xs vs
  | .dct kvs, a => ∃ vs, H a = some (.dK vs) ∧ RKs W H ρ n kvs vs
  | .fz xs, a => ∃ vs, FzL W.K H a vs ∧ RVs W H ρ 0 xs vs
  | .dlk kvs, a => ∃ vs o, H a = some (.frz o (.dK vs)) ∧ RKs W H ρ n kvs vs
def SO.mut : SO → Bool
  | .fz _ => false
  | .dlk _ => false
  | _ => true
structure RSt (W : Wd) (H : Hp) (ρ : Nat → Addr) (st : Sto) : Prop where
  inj : ∀ (i j : Nat) (o u : SO), st[i]? = some o → st[j]? = some u → o.mut = true → u.mut = true → ρ i = ρ j → i = j
  obj : ∀ (i : Nat) (o : SO), st[i]? = some o → RO W H ρ st.length o (ρ i)
  tab : LamX.Tabs W.T H
/-- from a state to a later one -/
structure Stp (W : Wd) (H : Hp) (ρ : Nat → Addr) (n : Nat) (H' : Hp) (ρ' : Nat → Addr) (st' : Sto) : Prop where
  rs : RSt W H' ρ' st'
  ext : HX H H'
  agr : Agr n ρ ρ'
  len : n ≤ st'.length
theorem Stp.refl {W : Wd} {H : Hp} {ρ : Nat → Addr} {st : Sto} (r : RSt W H ρ st) : Stp W H ρ st.length H ρ st := ⟨r, .refl _, .refl _ _, Nat.le_refl _⟩
theorem Stp.trans {W : Wd} {H H1 H2 : Hp} {ρ ρ1 ρ2 : Nat → Addr} {n : Nat} {st1 st2 : Sto} (a : Stp W H ρ n H1 ρ1 st1) (b : Stp W H1 ρ1 st1.length H2 ρ2 st2) : Stp W H ρ n H2 ρ2 st2 :=
  ⟨b.rs, a.ext.trans b.ext, fun i h => by rw [b.agr i (Nat.lt_of_lt_of_le h a.len), a.agr i h], Nat.le_trans a.len b.len⟩
theorem Stp.rv {W : Wd} {H H' : Hp} {ρ ρ' : Nat → Addr} {n : Nat} {st' : Sto} (s : Stp W H ρ n H' ρ' st') {p : PV} {v : V} (h : RV W H ρ n p v) : RV W H' ρ' st'.length p v := h.mono s.ext s.agr s.len
theorem Stp.rvs {W : Wd} {H H' : Hp} {ρ ρ' : Nat → Addr} {n : Nat} {st' : Sto} (s : Stp W H ρ n H' ρ' st') {p : List PV} {v : List V} (h : RVs W H ρ n p v) : RVs W H' ρ' st'.length p v := h.mono s.ext s.agr s.len
/-- an exception -/
def RX (W : Wd) (H : Hp) (ρ : Nat → Addr) (n : Nat) (e : Ex) (c : Value) (d : Option Addr) : Prop :=
  W.ca e.cls = some c ∧ match e.fld with
    | none => d = none
    | some (f, p) => ∃ dd v, d = some dd ∧ H dd = some (.xd [(f, v)]) ∧ RV W H ρ n p v
structure REnv (W : Wd) (H : Hp) (ρ : Nat → Addr) (n : Nat) (env : Env) (σ : L2.St) : Prop where
  len : env.length = σ.length
  get : ∀ (i : Nat) (p : PV), env[i]? = some (some p) → ∃ v : V, σ[i]? = some (some v) ∧ RV W H ρ n p v
theorem REnv.mono {W : Wd} {H H' : Hp} {ρ ρ' : Nat → Addr} {n n' : Nat} {env : Env} {σ : L2.St} (x : HX H H') (ag : Agr n ρ ρ') (le : n ≤ n') (h : REnv W H ρ n env σ) : REnv W H' ρ' n' env σ :=
  ⟨h.len, fun i p e => let ⟨v, h1, h2⟩ := h.get i p e; ⟨v, h1, h2.mono x ag le⟩⟩
theorem Stp.renv {W : Wd} {H H' : Hp} {ρ ρ' : Nat → Addr} {n : Nat} {st' : Sto} (s : Stp W H ρ n H' ρ' st') {env : Env} {σ : L2.St} (h : REnv W H ρ n env σ) : REnv W H' ρ' st'.length env σ := h.mono s.ext s.agr s.len
theorem REnv.set {W : Wd} {H : Hp} {ρ : Nat → Addr} {n : Nat} {env : Env} {σ : L2.St} {p : PV} {v : V} (h : REnv W H ρ n env σ) (i : Nat) (r : RV W H ρ n p v) : REnv W H ρ n (env.set i (some p)) (σ.set i (some v)) := by
  refine ⟨by rw [List.length_set, List.length_set, h.len], fun j q e => ?_⟩
  by_cases hj : i = j
  · subst hj
    by_cases hl : i < env.length
    · rw [List.getElem?_set_self hl] at e
      cases e
      exact ⟨v, by rw [List.getElem?_set_self (by rw [← h.len]; exact hl)], r⟩
    · rw [List.getElem?_eq_none (by rw [List.length_set]; exact Nat.le_of_not_lt hl)] at e
      cases e
  · rw [List.getElem?_set_ne hj] at e
    obtain ⟨w, h1, h2⟩ := h.get j q e
    exact ⟨w, by rw [List.getElem?_set_ne hj]; exact h1, h2⟩
/-- forgetting slots -/
def wipeE (env : Env) : List Nat → Env
  | [] => env
  | v :: vs => (wipeE env vs).set v none
theorem REnv.wipe {W : Wd} {H : Hp} {ρ : Nat → Addr} {n : Nat} {env : Env} {σ : L2.St} (h : REnv W H ρ n env σ) : ∀ vs : List Nat, REnv W H ρ n (wipeE env vs) (L2.wipe σ vs)
  | [] => h
  | v :: vs => by
    have r := REnv.wipe h vs
    refine ⟨by show (List.set _ _ _).length = (List.set _ _ _).length; rw [List.length_set, List.length_set, r.len], fun j q e => ?_⟩
    have e : ((wipeE env vs).set v none)[j]? = some (some q) := e
    by_cases hj : v = j
    · subst hj
      by_cases hl : v < (wipeE env vs).length
      · rw [List.getElem?_set_self hl] at e
        cases e
      · rw [List.getElem?_eq_none (by rw [List.length_set]; exact Nat.le_of_not_lt hl)] at e
        cases e
    · rw [List.getElem?_set_ne hj] at e
      obtain ⟨w, h1, h2⟩ := r.get j q e
      exact ⟨w, by show ((L2.wipe σ vs).set v none)[j]? = _; rw [List.getElem?_set_ne hj]; exact h1, h2⟩

/-! ### readings -/
/-- what a call of what was handed in does -/
abbrev TR := Hp → (Nat → Addr) → Nat → Th → Prop
def TR.Stays (W : Wd) (t : TR) : Prop := ∀ H ρ n th H' ρ' st', Stp W H ρ n H' ρ' st' → t H ρ n th → t H' ρ' st'.length th
section
variable (W : Wd)
def gR {α β : Type} (R : Hp → (Nat → Addr) → Nat → α → β → Prop) (E : XK) (r : Res α) (H : Hp) (ρ : Nat → Addr) (n : Nat) (Q : β → Hp → Prop) : Prop := match r with
  | .ok v st' => ∀ H' ρ' x, Stp W H ρ n H' ρ' st' → R H' ρ' st'.length v x → Q x H'
  | .exc e st' => ∀ H' ρ' c d, Stp W H ρ n H' ρ' st' → RX W H' ρ' st'.length e c d → E c d H'
  | .bad => False
abbrev gE (E : XK) (r : Res PV) (H : Hp) (ρ : Nat → Addr) (n : Nat) (Q : VK) : Prop := gR W (fun H ρ n p x => RV W H ρ n p x) E r H ρ n Q
abbrev gB (E : XK) (r : Res Bool) (H : Hp) (ρ : Nat → Addr) (n : Nat) (Q : Bool → Hp → Prop) : Prop := gR W (fun _ _ _ p x => x = p) E r H ρ n Q
abbrev gL (E : XK) (r : Res (List PV)) (H : Hp) (ρ : Nat → Addr) (n : Nat) (Q : List V → Hp → Prop) : Prop := gR W (fun H ρ n p x => RVs W H ρ n p x) E r H ρ n Q
def gS (Wx : WX) (r : RS) (H : Hp) (ρ : Nat → Addr) (n : Nat) (D : Ends) : Prop := match r with
  | .nx env st' => ∀ H' ρ' σ', Stp W H ρ n H' ρ' st' → REnv W H' ρ' st'.length env σ' → D.nx σ' H'
  | .bk env st' => ∀ H' ρ' σ', Stp W H ρ n H' ρ' st' → REnv W H' ρ' st'.length env σ' → D.bk σ' H'
  | .ct env st' => ∀ H' ρ' σ', Stp W H ρ n H' ρ' st' → REnv W H' ρ' st'.length env σ' → D.ct σ' H'
  | .rt v st' => ∀ H' ρ' x, Stp W H ρ n H' ρ' st' → RV W H' ρ' st'.length v x → D.rt x H'
  | .exc e env st' => ∀ H' ρ' σ' c d, Stp W H ρ n H' ρ' st' → REnv W H' ρ' st'.length env σ' → RX W H' ρ' st'.length e c d → Wx c d σ' H'
  | .bad => False
end
/-- where one stands: the world, what is wished of exceptions, what is known of what was handed in -/
structure Jx where
  W : Wd
  Wx : WX
  tr : TR
/-- a state in which d is run -/
structure Sit (J : Jx) (ρ : Nat → Addr) (th : Th) (env : Env) (st : Sto) (σ : L2.St) (H : Hp) : Prop where
  rs : RSt J.W H ρ st
  env : REnv J.W H ρ st.length env σ
  th : J.tr H ρ st.length th
theorem Sit.step {J : Jx} {ρ ρ' : Nat → Addr} {th : Th} {env : Env} {st st' : Sto} {σ : L2.St} {H H' : Hp} (hs : J.tr.Stays J.W) (h : Sit J ρ th env st σ H) (s : Stp J.W H ρ st.length H' ρ' st') : Sit J ρ' th env st' σ H' :=
  ⟨s.rs, s.renv h.env, hs _ _ _ _ _ _ _ s h.th⟩
def rdR {α β : Type} (J : Jx) (R : Hp → (Nat → Addr) → Nat → α → β → Prop) (d : Dn α) : L2.St → Hp → (β → Hp → Prop) → Prop := fun σ H Q =>
  ∃ ρ th env st, Sit J ρ th env st σ H ∧ gR J.W R (fun c dd H' => J.Wx c dd σ H') (d th env st) H ρ st.length Q
abbrev rdE (J : Jx) (d : DE) : TE := rdR J (fun H ρ n p x => RV J.W H ρ n p x) d
abbrev rdB (J : Jx) (d : DB) : TT := rdR J (fun _ _ _ p x => x = p) d
abbrev rdL (J : Jx) (d : DL) : TA := rdR J (fun H ρ n p x => RVs J.W H ρ n p x) d
def rdS (J : Jx) (d : DS) : TS := fun D σ H => ∃ ρ th env st, Sit J ρ th env st σ H ∧ gS J.W J.Wx (d th env st) H ρ st.length D

section
variable {W : Wd} {H H' : Hp} {ρ ρ' : Nat → Addr} {n : Nat} {st' : Sto}
theorem gR.pre {α β : Type} {R : Hp → (Nat → Addr) → Nat → α → β → Prop} {E : XK} {r : Res α} {Q : β → Hp → Prop} (s : Stp W H ρ n H' ρ' st') (h : gR W R E r H ρ n Q) : gR W R E r H' ρ' st'.length Q := by
  cases r with
  | ok v st2 => exact fun H2 ρ2 x s2 q => h H2 ρ2 x (s.trans s2) q
  | exc e st2 => exact fun H2 ρ2 c d s2 q => h H2 ρ2 c d (s.trans s2) q
  | bad => exact h
theorem gS.pre {Wx : WX} {r : RS} {D : Ends} (s : Stp W H ρ n H' ρ' st') (h : gS W Wx r H ρ n D) : gS W Wx r H' ρ' st'.length D := by
  cases r with
  | nx env st2 => exact fun H2 ρ2 x s2 q => h H2 ρ2 x (s.trans s2) q
  | bk env st2 => exact fun H2 ρ2 x s2 q => h H2 ρ2 x (s.trans s2) q
  | ct env st2 => exact fun H2 ρ2 x s2 q => h H2 ρ2 x (s.trans s2) q
  | rt v st2 => exact fun H2 ρ2 x s2 q => h H2 ρ2 x (s.trans s2) q
  | exc e env st2 => exact fun H2 ρ2 σ2 c d s2 q => h H2 ρ2 σ2 c d (s.trans s2) q
  | bad => exact h
theorem gR.bind {α β γ δ : Type} {R : Hp → (Nat → Addr) → Nat → α → β → Prop} {R2 : Hp → (Nat → Addr) → Nat → γ → δ → Prop} {E : XK} {r : Res α} {f : α → Sto → Res γ} {Q : δ → Hp → Prop} {Q2 : β → Hp → Prop}
    (h : gR W R2 E (r.bind f) H ρ n Q) (k : ∀ v st1 H1 ρ1 x, r = .ok v st1 → Stp W H ρ n H1 ρ1 st1 → R H1 ρ1 st1.length v x → gR W R2 E (f v st1) H1 ρ1 st1.length Q → Q2 x H1) : gR W R E r H ρ n Q2 := by
  cases r with
  | ok v st1 => exact fun H1 ρ1 x s1 q => k v st1 H1 ρ1 x rfl s1 q (gR.pre s1 h)
  | exc e st1 => exact h
  | bad => exact h
theorem gR.mono {α β : Type} {R : Hp → (Nat → Addr) → Nat → α → β → Prop} {E : XK} {r : Res α} {Q Q2 : β → Hp → Prop} (h : gR W R E r H ρ n Q) (k : ∀ x H', Q x H' → Q2 x H') : gR W R E r H ρ n Q2 := by
  cases r with
  | ok v st1 => exact fun H1 ρ1 x s1 q => k x H1 (h H1 ρ1 x s1 q)
  | exc e st1 => exact h
  | bad => exact h
theorem gR.now {α β : Type} {R : Hp → (Nat → Addr) → Nat → α → β → Prop} {E : XK} {v : α} {st : Sto} {x : β} {Q : β → Hp → Prop} (r : RSt W H ρ st) (hx : R H ρ st.length v x) (h : gR W R E (.ok v st) H ρ st.length Q) : Q x H :=
  h H ρ x (.refl r) hx
end
section
variable {J : Jx}
/-- one part, then what is made of it -/
theorem rd_bind {α β γ δ : Type} {R : Hp → (Nat → Addr) → Nat → α → β → Prop} {R2 : Hp → (Nat → Addr) → Nat → γ → δ → Prop} {da : Dn α} {f : α → Dn γ} {σ : L2.St} {H : Hp} {Q : δ → Hp → Prop} {Q2 : β → Hp → Prop} (hs : J.tr.Stays J.W)
    (h : rdR J R2 (fun th env st => (da th env st).bind fun v st1 => f v th env st1) σ H Q)
    (k : ∀ ρ th env st v x H1, Sit J ρ th env st σ H1 → R H1 ρ st.length v x → gR J.W R2 (fun c dd H' => J.Wx c dd σ H') (f v th env st) H1 ρ st.length Q → Q2 x H1) : rdR J R da σ H Q2 := by
  obtain ⟨ρ, th, env, st, S, g⟩ := h
  exact ⟨ρ, th, env, st, S, gR.bind g fun v st1 H1 ρ1 x _ s1 r g1 => k ρ1 th env st1 v x H1 (S.step hs s1) r g1⟩
theorem rd_of {α β : Type} {R : Hp → (Nat → Addr) → Nat → α → β → Prop} {d : Dn α} {ρ : Nat → Addr} {th : Th} {env : Env} {st : Sto} {σ : L2.St} {H : Hp} {Q : β → Hp → Prop} (S : Sit J ρ th env st σ H)
    (g : gR J.W R (fun c dd H' => J.Wx c dd σ H') (d th env st) H ρ st.length Q) : rdR J R d σ H Q := ⟨ρ, th, env, st, S, g⟩
theorem PE.imp {X : Cx} {e : Expr} {t t' : TE} (h : PE X e t) (k : ∀ σ H Q, t' σ H Q → t σ H Q) : PE X e t' := ⟨fun pins s σ H Q I q => h.run pins s σ H Q I (k σ H Q q)⟩
theorem PT.imp {X : Cx} {e : Expr} {t t' : TT} (h : PT X e t) (k : ∀ σ H Q, t' σ H Q → t σ H Q) : PT X e t' := ⟨fun pins s σ H Q I q => h.run pins s σ H Q I (k σ H Q q)⟩
theorem PA.imp {X : Cx} {e : List Expr} {t t' : TA} (h : PA X e t) (k : ∀ σ H Q, t' σ H Q → t σ H Q) : PA X e t' := ⟨fun pos pins s σ H Q I q => h.run pos pins s σ H Q I (k σ H Q q)⟩
theorem PS.imp {X : Cx} {e : Stmt} {t t' : TS} (h : PS X e t) (k : ∀ D σ H, t' D σ H → t D σ H) : PS X e t' := ⟨fun pins s σ H D I q => h.run pins s σ H D I (k D σ H q)⟩
theorem PSs.imp {X : Cx} {e : List Stmt} {t t' : TS} (h : PSs X e t) (k : ∀ D σ H, t' D σ H → t D σ H) : PSs X e t' := ⟨fun pins s σ H D I q => h.run pins s σ H D I (k D σ H q)⟩
end
end Mi
end
section
set_option maxRecDepth 100000
set_option maxHeartbeats 4000000
namespace Mi
open PySem PySem.Spec PyProof.Rows L2
/-! ### new objects, written objects -/
section
variable {W : Wd} {H H' : Hp} {ρ ρ' : Nat → Addr} {n n' : Nat} {st : Sto} {p : Addr} {o u : HO}
theorem tabs_new {T : List (Addr × Str)} (hp : H p = none) (h : LamX.Tabs T H) : LamX.Tabs T (upd H p o) := h.ext fun b v e => by
  rw [upd_ne (ne_of_none e hp)]
  exact e
theorem tabs_mut {T : List (Addr × Str)} (hp : H p = some u) (h1 : ∀ ps, u ≠ .tbl ps) (h2 : ∀ φ, u ≠ .ext φ) (h : LamX.Tabs T H) : LamX.Tabs T (upd H p o) := fun q hq => by
  obtain ⟨ps, e1, e2, e3⟩ := h q hq
  refine ⟨ps, ?_, e2, fun pos cv hc => ?_⟩
  · rw [upd_ne (ne_of e1 hp fun z => h1 ps z.symm)]
    exact e1
  · obtain ⟨c, a1, a2⟩ := e3 pos cv hc
    refine ⟨c, a1, ?_⟩
    rw [upd_ne (ne_of a2 hp fun z => by unfold LamX.CodeO at z; exact h2 _ z.symm)]
    exact a2
theorem RO.mono {so : SO} {a : Addr} (x : HX H H') (ag : Agr n ρ ρ') (le : n ≤ n') (e : ∀ u, (∀ xs, u ≠ .tup xs) → (∀ o w, u ≠ .frz o w) → H a = some u → H' a = some u) (h : RO W H ρ n so a) : RO W H' ρ' n' so a := by
  cases so with
  | lst xs =>
    obtain ⟨vs, h1, h2⟩ := h
    exact ⟨vs, e _ (fun _ z => by cases z) (fun _ _ z => by cases z) h1, h2.mono x ag le⟩
  | dct xs =>
    obtain ⟨vs, h1, h2⟩ := h
    exact ⟨vs, e _ (fun _ z => by cases z) (fun _ _ z => by cases z) h1, RKs.mono x ag le _ _ h2⟩
  | fz xs =>
    obtain ⟨vs, h1, h2⟩ := h
    exact ⟨vs, h1.mono x, h2.mono x (fun i z => absurd z (Nat.not_lt_zero i)) (Nat.le_refl _)⟩
  | dlk xs =>
    obtain ⟨vs, o, h1, h2⟩ := h
    exact ⟨vs, o, x.frz _ _ _ h1, RKs.mono x ag le _ _ h2⟩
/-- what stands for a mutable object -/
theorem RO.there {so : SO} {a : Addr} (h : RO W H ρ n so a) (m : so.mut = true) : ∃ u, H a = some u ∧ (∀ xs, u ≠ .tup xs) ∧ (∀ o w, u ≠ .frz o w) ∧ (∀ ps, u ≠ .tbl ps) ∧ ∀ φ, u ≠ .ext φ := by
  cases so with
  | lst xs =>
    obtain ⟨vs, h1, h2⟩ := h
    exact ⟨_, h1, (fun _ z => by cases z), (fun _ _ z => by cases z), (fun _ z => by cases z), (fun _ z => by cases z)⟩
  | dct xs =>
    obtain ⟨vs, h1, h2⟩ := h
    exact ⟨_, h1, (fun _ z => by cases z), (fun _ _ z => by cases z), (fun _ z => by cases z), (fun _ z => by cases z)⟩
  | fz xs => cases m
  | dlk xs => cases m
/-- a new object that the store does not hold -/
theorem Stp.aside (r : RSt W H ρ st) (hp : H p = none) : Stp W H ρ st.length (upd H p o) ρ st := by
  refine ⟨⟨r.inj, fun i so e => ?_, tabs_new hp r.tab⟩, HX.new hp, .refl _ _, Nat.le_refl _⟩
  exact (r.obj i so e).mono (HX.new hp) (.refl _ _) (Nat.le_refl _) fun u _ _ h => by
    rw [upd_ne (ne_of_none h hp)]
    exact h
def put (ρ : Nat → Addr) (n : Nat) (p : Addr) : Nat → Addr := fun i => if i = n then p else ρ i
theorem put_same {ρ : Nat → Addr} {n : Nat} {p : Addr} : put ρ n p n = p := if_pos rfl
theorem put_agr {ρ : Nat → Addr} {n : Nat} {p : Addr} : Agr n ρ (put ρ n p) := fun i h => if_neg (Nat.ne_of_lt h)
/-- a new object -/
theorem Stp.alloc {so : SO} (r : RSt W H ρ st) (hp : H p = none) (new : RO W (upd H p o) (put ρ st.length p) (st.length + 1) so p) (hm : so.mut = true) : Stp W H ρ st.length (upd H p o) (put ρ st.length p) (st ++ [so]) := by
  have len : (st ++ [so]).length = st.length + 1 := by simp
  have hx : HX H (upd H p o) := HX.new hp
  have obj : ∀ (i : Nat) (u : SO), (st ++ [so])[i]? = some u → (i < st.length ∧ st[i]? = some u ∧ put ρ st.length p i = ρ i) ∨ (i = st.length ∧ u = so) := fun i u e => by
    by_cases h : i < st.length
    · rw [List.getElem?_append_left h] at e
      exact .inl ⟨h, e, put_agr i h⟩
    · have h2 : i = st.length := by
        have := (List.getElem?_eq_some_iff.mp e).1
        rw [len] at this
        omega
      subst h2
      rw [List.getElem?_append_right (Nat.le_refl _)] at e
      simp at e
      exact .inr ⟨rfl, e.symm⟩
  refine ⟨⟨fun i j a b ei ej ma mb q => ?_, fun i u e => ?_, tabs_new hp r.tab⟩, hx, put_agr, by omega⟩
  · rcases obj i a ei with ⟨hi, ei, pi⟩ | ⟨hi, ea⟩ <;> rcases obj j b ej with ⟨hj, ej, pj⟩ | ⟨hj, eb⟩
    · rw [pi, pj] at q
      exact r.inj i j a b ei ej ma mb q
    · subst hj
      rw [pi, put_same] at q
      obtain ⟨u, h1, _⟩ := (r.obj i a ei).there ma
      rw [q, hp] at h1
      cases h1
    · subst hi
      rw [pj, put_same] at q
      obtain ⟨u, h1, _⟩ := (r.obj j b ej).there mb
      rw [← q, hp] at h1
      cases h1
    · rw [hi, hj]
  · rw [len]
    rcases obj i u e with ⟨hi, ei, pi⟩ | ⟨hi, ea⟩
    · rw [pi]
      exact (r.obj i u ei).mono hx put_agr (Nat.le_succ _) fun w _ _ h => by
        rw [upd_ne (ne_of_none h hp)]
        exact h
    · subst hi ea
      rw [put_same]
      exact new
/-- an object is written -/
theorem Stp.write0 {k : Nat} {so so' : SO} (r : RSt W H ρ st) (hk : st[k]? = some so) (m : so.mut = true) (new : RO W (upd H (ρ k) o) ρ st.length so' (ρ k)) : Stp W H ρ st.length (upd H (ρ k) o) ρ (st.set k so') := by
  obtain ⟨u, h1, n1, n2, n3, n4⟩ := (r.obj k so hk).there m
  have hx : HX H (upd H (ρ k) o) := HX.mut h1 n1 n2
  have hl : k < st.length := (List.getElem?_eq_some_iff.mp hk).1
  have obj : ∀ (i : Nat) (w : SO), (st.set k so')[i]? = some w → (i = k ∧ w = so') ∨ (i ≠ k ∧ st[i]? = some w) := fun i w e => by
    by_cases h : i = k
    · subst h
      rw [List.getElem?_set_self hl] at e
      exact .inl ⟨rfl, (Option.some.inj e).symm⟩
    · rw [List.getElem?_set_ne (Ne.symm h)] at e
      exact .inr ⟨h, e⟩
  have orig : ∀ (i : Nat) (w : SO), (st.set k so')[i]? = some w → w.mut = true → ∃ w', st[i]? = some w' ∧ w'.mut = true := fun i w e mw => by
    rcases obj i w e with ⟨rfl, _⟩ | ⟨_, e⟩
    · exact ⟨so, hk, m⟩
    · exact ⟨w, e, mw⟩
  refine ⟨⟨fun i j a b ei ej ma mb q => ?_, fun i w e => ?_, tabs_mut h1 n3 n4 r.tab⟩, hx, .refl _ _, by rw [List.length_set]; exact Nat.le_refl _⟩
  · obtain ⟨a', ea, ma'⟩ := orig i a ei ma
    obtain ⟨b', eb, mb'⟩ := orig j b ej mb
    exact r.inj i j a' b' ea eb ma' mb' q
  · rw [List.length_set]
    rcases obj i w e with ⟨rfl, rfl⟩ | ⟨hi, e⟩
    · exact new
    · by_cases hm : w.mut = true
      · refine (r.obj i w e).mono hx (.refl _ _) (Nat.le_refl _) fun u' a1 a2 h => ?_
        have ne : ρ i ≠ ρ k := fun z => hi (r.inj i k w so e hk hm m z)
        rw [upd_ne ne]
        exact h
      · cases w with
        | fz xs =>
          obtain ⟨vs, hf, hv⟩ := r.obj i _ e
          exact ⟨vs, hf.mono hx, hv.mono hx (.refl _ _) (Nat.le_refl _)⟩
        | dlk xs =>
          obtain ⟨vs, o, hf, hv⟩ := r.obj i _ e
          exact ⟨vs, o, hx.frz _ _ _ hf, RKs.mono hx (.refl _ _) (Nat.le_refl _) _ _ hv⟩
        | lst xs => exact absurd rfl hm
        | dct xs => exact absurd rfl hm
theorem Stp.write {k : Nat} {so so' : SO} (r : RSt W H ρ st) (hk : st[k]? = some so) (m : so.mut = true) (_ : so'.mut = true) (new : RO W (upd H (ρ k) o) ρ st.length so' (ρ k)) : Stp W H ρ st.length (upd H (ρ k) o) ρ (st.set k so') := .write0 r hk m new
/-! ### the forms one uses -/
theorem Stp.newL {xs : List PV} {vs : List V} (r : RSt W H ρ st) (hp : H p = none) (h : RVs W H ρ st.length xs vs) : Stp W H ρ st.length (upd H p (.lst vs)) (put ρ st.length p) (st ++ [.lst xs]) :=
  .alloc r hp ⟨vs, upd_same, h.mono (HX.new hp) put_agr (Nat.le_succ _)⟩ rfl
theorem Stp.setL {k : Nat} {so : SO} {xs : List PV} {vs : List V} (r : RSt W H ρ st) (hk : st[k]? = some so) (m : so.mut = true) (h : RVs W H ρ st.length xs vs) : Stp W H ρ st.length (upd H (ρ k) (.lst vs)) ρ (st.set k (.lst xs)) := by
  obtain ⟨u, h1, n1, n2, _⟩ := (r.obj k so hk).there m
  exact .write r hk m rfl ⟨vs, upd_same, h.mono (HX.mut h1 n1 n2) (.refl _ _) (Nat.le_refl _)⟩
theorem Stp.newT {vs : List V} (r : RSt W H ρ st) (hp : H p = none) : Stp W H ρ st.length (upd H p (.tup vs)) ρ st := .aside r hp
theorem rv_newT {xs : List PV} {vs : List V} (hp : H p = none) (h : RVs W H ρ n xs vs) : RV W (upd H p (.tup vs)) ρ n (.tup xs) (.ref p) :=
  ⟨p, vs, rfl, .inl (.inl upd_same), h.mono (HX.new hp) (.refl _ _) (Nat.le_refl _)⟩
/-- a list of the store, read -/
theorem RSt.lst {k : Nat} {xs : List PV} (r : RSt W H ρ st) (hk : st[k]? = some (.lst xs)) : ∃ vs, H (ρ k) = some (.lst vs) ∧ RVs W H ρ st.length xs vs := r.obj k _ hk
end
end Mi
end
section
set_option maxRecDepth 100000
set_option maxHeartbeats 4000000
namespace Mi
open PySem PySem.Spec PyProof.Rows L2
/-! ### operations by values -/
def szOk (n : Nat) : Bool := Nat.ble n 16777216
theorem szOk_le {n : Nat} (h : szOk n = true) : n ≤ sizeLine := by
  rw [sizeLine_eq]
  exact Nat.le_of_ble_eq_true h
def lstAt (st : Sto) (k : Nat) : Option (List PV) := match st[k]? with
  | some (.lst xs) => some xs
  | some (.fz xs) => some xs
  | _ => none
section
variable {W : Wd} {H : Hp} {ρ : Nat → Addr} {n : Nat} {st : Sto}
theorem RSt.seq {k : Nat} {xs : List PV} (r : RSt W H ρ st) (h : lstAt st k = some xs) : ∃ vs, SqL W.K H (ρ k) vs ∧ RVs W H ρ st.length xs vs := by
  unfold lstAt at h
  split at h
  · rename_i ys e
    cases h
    obtain ⟨vs, h1, h2⟩ := r.obj k _ e
    exact ⟨vs, .of h1, h2⟩
  · rename_i ys e
    cases h
    obtain ⟨vs, h1, h2⟩ := r.obj k _ e
    exact ⟨vs, h1.sq, h2.mono (HX.refl H) (Agr.refl 0 ρ) (Nat.zero_le _)⟩
  · cases h
/-- data -/
def mapO {α β : Type} (f : α → Option β) : List α → Option (List β)
  | [] => some []
  | x :: xs => match f x with
    | some y => match mapO f xs with
      | some ys => some (y :: ys)
      | none => none
    | none => none
def okCh (s : List Nat) : Bool := s.all fun c => Nat.blt c 1114112
def dat : Nat → Sto → PV → Option PyData
  | _, _, .non => some .none
  | _, _, .bl b => some (.bool b)
  | _, _, .int i => some (.int i)
  | _, _, .str s => if okCh s = true then some (.str ⟨s.toArray⟩) else none
  | n + 1, st, .tup xs => match mapO (dat n st) xs with
    | some ds => some (.tuple ds)
    | none => none
  | n + 1, st, .ref k => match lstAt st k with
    | some xs => match mapO (dat n st) xs with
      | some ds => some (.list ds)
      | none => none
    | none => none
  | _, _, _ => none
theorem okCh_ok {s : List Nat} (h : okCh s = true) : PyData.strOk ⟨s.toArray⟩ = true := by
  unfold PyData.strOk
  unfold okCh at h
  show s.toArray.all _ = true
  rw [List.all_toArray]
  refine List.all_eq_true.mpr fun c hc => ?_
  have h2 := List.all_eq_true.mp h c hc
  have h3 : c < 1114112 := Nat.le_of_ble_eq_true h2
  exact decide_eq_true h3
theorem mapO_all {f : PV → Option PyData} {P : PyData → Prop} (hf : ∀ p d, f p = some d → P d) : ∀ {xs : List PV} {ds : List PyData}, mapO f xs = some ds → ∀ d ∈ ds, P d
  | [], ds, e => by
    cases e
    intro d hd
    cases hd
  | x :: xs, ds, e => by
    unfold mapO at e
    split at e
    · rename_i y ey
      split at e
      · rename_i ys eys
        cases e
        intro d hd
        rcases List.mem_cons.mp hd with rfl | hd
        · exact hf _ _ ey
        · exact mapO_all hf eys d hd
      · cases e
    · cases e
theorem canLayAll_of : ∀ {ds : List PyData}, (∀ d ∈ ds, d.canLay0 = true) → PyData.canLayAll0 ds = true
  | [], _ => rfl
  | d :: ds, h => by
    unfold PyData.canLayAll0
    rw [h d (List.mem_cons_self ..), canLayAll_of fun e he => h e (List.mem_cons_of_mem _ he)]
    rfl
theorem depthAll_of {n : Nat} : ∀ {ds : List PyData}, (∀ d ∈ ds, d.depth ≤ n) → PyData.depthAll ds ≤ n
  | [], _ => Nat.zero_le _
  | d :: ds, h => by
    unfold PyData.depthAll
    exact Nat.max_le.mpr ⟨h d (List.mem_cons_self ..), depthAll_of fun e he => h e (List.mem_cons_of_mem _ he)⟩
theorem dat_shape : ∀ (n : Nat) (p : PV) (d : PyData), dat n st p = some d → d.canLay0 = true ∧ d.depth ≤ n := by
  intro n
  induction n with
  | zero =>
    intro p d e
    cases p <;> simp only [dat] at e <;> first
      | (cases e; done)
      | (cases e; exact ⟨rfl, Nat.le_refl _⟩)
      | (split at e
         · rename_i h
           cases e
           exact ⟨okCh_ok h, Nat.le_refl _⟩
         · cases e)
  | succ n ih =>
    intro p d e
    cases p <;> simp only [dat] at e
    all_goals try (first | (cases e; done) | (cases e; exact ⟨rfl, Nat.zero_le _⟩))
    · split at e
      · rename_i h
        cases e
        exact ⟨okCh_ok h, Nat.zero_le _⟩
      · cases e
    · split at e
      · rename_i ds hd
        cases e
        have h := mapO_all (P := fun d => d.canLay0 = true ∧ d.depth ≤ n) ih hd
        refine ⟨canLayAll_of fun d q => (h d q).1, ?_⟩
        unfold PyData.depth
        have := depthAll_of fun d q => (h d q).2
        omega
      · cases e
    · split at e
      · split at e
        · rename_i ds hd
          cases e
          have h := mapO_all (P := fun d => d.canLay0 = true ∧ d.depth ≤ n) ih hd
          refine ⟨canLayAll_of fun d q => (h d q).1, ?_⟩
          unfold PyData.depth
          have := depthAll_of fun d q => (h d q).2
          omega
        · cases e
      · cases e
theorem mapO_dp (r : RSt W H ρ st) {f : PV → Option PyData} (hf : ∀ p d x, f p = some d → RV W H ρ st.length p x → Dp W.K H x d) : ∀ {xs : List PV} {ds : List PyData} {vs : List V}, mapO f xs = some ds → RVs W H ρ st.length xs vs → DpAll W.K H vs ds
  | [], ds, vs, e, h => by
    cases e
    have h : vs = [] := h
    subst h
    exact .nil
  | x :: xs, ds, vs, e, h => by
    unfold mapO at e
    obtain ⟨v, w, rfl, h1, h2⟩ := h
    split at e
    · rename_i y ey
      split at e
      · rename_i ys eys
        cases e
        exact .cons (hf _ _ _ ey h1) (mapO_dp r hf eys h2)
      · cases e
    · cases e
theorem dat_dp (r : RSt W H ρ st) : ∀ (n : Nat) (p : PV) (d : PyData) (x : V), dat n st p = some d → RV W H ρ st.length p x → Dp W.K H x d := by
  intro n
  induction n with
  | zero =>
    intro p d x e h
    cases p <;> simp only [dat] at e <;> first
      | (cases e; done)
      | (cases e; simp only [RV] at h; subst h; constructor)
      | (split at e
         · cases e
           simp only [RV] at h
           subst h
           constructor
         · cases e)
  | succ n ih =>
    intro p d x e h
    cases p <;> simp only [dat] at e
    all_goals try (first | (cases e; done) | (cases e; simp only [RV] at h; subst h; constructor))
    · split at e
      · cases e
        simp only [RV] at h
        subst h
        constructor
      · cases e
    · split at e
      · rename_i ds hd
        cases e
        obtain ⟨a, vs, rfl, hq, hv⟩ := h
        exact .tup hq (mapO_dp r ih hd hv)
      · cases e
    · split at e
      · rename_i xs hx
        split at e
        · rename_i ds hd
          cases e
          obtain ⟨hk, rfl⟩ := h
          obtain ⟨vs, hq, hv⟩ := r.seq hx
          exact .lst hq (mapO_dp r ih hd hv)
        · cases e
      · cases e
theorem shaped_dat {n : Nat} {p : PV} {d : PyData} (hn : n ≤ 64) (h : dat n st p = some d) : SeqAt.shaped d = true := by
  obtain ⟨h1, h2⟩ := dat_shape n p d h
  unfold SeqAt.shaped
  rw [h1, Bool.true_and]
  exact decide_eq_true (Nat.le_trans h2 hn)
end
/-- == -/
def pEqB (x y : PV) (st : Sto) : Option Bool := match x, y with
  | .int i, .int j => some (decide (i = j))
  | .str a, .str b => some (decide (a = b))
  | .bl a, .bl b => some (a == b)
  | .non, .non => some true
  | x, y => match dat 60 st x with
    | some d => match dat 60 st y with
      | some e => some (PyData.eqv d e)
      | none => none
    | none => none
def pEq (x y : PV) (st : Sto) : Res PV := match pEqB x y st with
  | some b => .ok (.bl b) st
  | none => .bad
def pNe (x y : PV) (st : Sto) : Res PV := match pEqB x y st with
  | some b => .ok (.bl (!b)) st
  | none => .bad
/-- a two-place operation does what a rule of the layer asks -/
def OpOK (J : Jx) (f : PV → PV → Sto → Res PV) (r : R2) : Prop := ∀ (E : XK) (H : Hp) (ρ : Nat → Addr) (st : Sto) (p q : PV) (x y : V) (Q : VK), RSt J.W H ρ st → RV J.W H ρ st.length p x → RV J.W H ρ st.length q y → gE J.W E (f p q st) H ρ st.length Q → r x y H Q
def UnOK (J : Jx) (f : PV → Sto → Res PV) (r : V → Hp → VK → Prop) : Prop := ∀ (E : XK) (H : Hp) (ρ : Nat → Addr) (st : Sto) (p : PV) (x : V) (Q : VK), RSt J.W H ρ st → RV J.W H ρ st.length p x → gE J.W E (f p st) H ρ st.length Q → r x H Q
def CallOK (J : Jx) (f : List PV → Sto → Res PV) (r : List V → Hp → VK → Prop) : Prop := ∀ (E : XK) (H : Hp) (ρ : Nat → Addr) (st : Sto) (ps : List PV) (xs : List V) (Q : VK), RSt J.W H ρ st → RVs J.W H ρ st.length ps xs → gE J.W E (f ps st) H ρ st.length Q → r xs H Q
theorem str_inj {a b : List Nat} : decide (V.str ⟨a.toArray⟩ = V.str ⟨b.toArray⟩) = decide (a = b) := by
  by_cases h : a = b
  · subst h
    simp
  · have h2 : ¬ (V.str ⟨a.toArray⟩ = V.str ⟨b.toArray⟩) := fun z => by
      injection z with z
      injection z with z
      exact h (by simpa using z)
    rw [decide_eq_false h, decide_eq_false h2]
section
variable {J : Jx}
def rEqA (K : PySem.W.Frag) : R2 := fun x y H Q => rEq x y H Q ∨ rEqD K x y H Q
def rNeA (K : PySem.W.Frag) : R2 := fun x y H Q => rNe x y H Q ∨ rNeD K x y H Q
theorem eqB_ok {W : Wd} {H : Hp} {ρ : Nat → Addr} {st : Sto} {p q : PV} {x y : V} {b : Bool} (r : RSt W H ρ st) (hx : RV W H ρ st.length p x) (hy : RV W H ρ st.length q y) (h : pEqB p q st = some b) :
    (scal x y = true ∧ decide (x = y) = b) ∨ ∃ d e, Dp W.K H x d ∧ Dp W.K H y e ∧ SeqAt.shaped d = true ∧ SeqAt.shaped e = true ∧ PyData.eqv d e = b := by
  unfold pEqB at h
  split at h
  · cases h
    simp only [RV] at hx hy
    subst hx hy
    refine .inl ⟨rfl, ?_⟩
    rw [dec_int, Bool.beq_eq_decide_eq]
  · cases h
    simp only [RV] at hx hy
    subst hx hy
    exact .inl ⟨rfl, str_inj⟩
  · cases h
    simp only [RV] at hx hy
    subst hx hy
    exact .inl ⟨rfl, dec_bl⟩
  · cases h
    simp only [RV] at hx hy
    subst hx hy
    exact .inl ⟨rfl, by simp⟩
  · split at h
    · rename_i d hd
      split at h
      · rename_i e he
        cases h
        exact .inr ⟨d, e, dat_dp r _ _ _ _ hd hx, dat_dp r _ _ _ _ he hy, shaped_dat (by decide) hd, shaped_dat (by decide) he, rfl⟩
      · cases h
    · cases h
theorem ok_eq : OpOK J pEq (rEqA J.W.K) := by
  intro E H ρ st p q x y Q r hx hy g
  unfold pEq at g
  cases e : pEqB p q st with
  | none =>
    rw [e] at g
    exact g.elim
  | some b =>
    rw [e] at g
    have hQ : Q (.bl b) H := g H ρ (.bl b) (.refl r) rfl
    rcases eqB_ok r hx hy e with ⟨h1, h2⟩ | ⟨d, e', h1, h2, h3, h4, h5⟩
    · exact .inl ⟨h1, by rw [h2]; exact hQ⟩
    · exact .inr ⟨d, e', h1, h2, h3, h4, by rw [h5]; exact hQ⟩
theorem ok_ne : OpOK J pNe (rNeA J.W.K) := by
  intro E H ρ st p q x y Q r hx hy g
  unfold pNe at g
  cases e : pEqB p q st with
  | none =>
    rw [e] at g
    exact g.elim
  | some b =>
    rw [e] at g
    have hQ : Q (.bl (!b)) H := g H ρ (.bl (!b)) (.refl r) rfl
    rcases eqB_ok r hx hy e with ⟨h1, h2⟩ | ⟨d, e', h1, h2, h3, h4, h5⟩
    · exact .inl ⟨h1, by rw [h2]; exact hQ⟩
    · exact .inr ⟨d, e', h1, h2, h3, h4, by rw [h5]; exact hQ⟩
/-- order -/
def pCmp (f : Int → Int → Bool) (g : List Nat → List Nat → Bool) (x y : PV) (st : Sto) : Res PV := match x, y with
  | .int i, .int j => .ok (.bl (f i j)) st
  | .str a, .str b => .ok (.bl (g a b)) st
  | _, _ => .bad
def pLt := pCmp (fun i j => decide (i < j)) (fun a b => decide (a < b))
def pLe := pCmp (fun i j => decide (i ≤ j)) (fun a b => !decide (b < a))
def pGt := pCmp (fun i j => decide (j < i)) (fun a b => decide (b < a))
def pGe := pCmp (fun i j => decide (j ≤ i)) (fun a b => !decide (a < b))
def rCmpA (f : Int → Int → Bool) (g : List Nat → List Nat → Bool) : R2 := fun x y H Q => (∃ i j, x = .int i ∧ y = .int j ∧ Q (.bl (f i j)) H) ∨ ∃ i j, x = .str i ∧ y = .str j ∧ Q (.bl (g i.cps.toList j.cps.toList)) H
theorem ok_cmp {f : Int → Int → Bool} {g : List Nat → List Nat → Bool} : OpOK J (pCmp f g) (rCmpA f g) := by
  intro E H ρ st p q x y Q r hx hy h
  unfold pCmp at h
  split at h
  · simp only [RV] at hx hy
    subst hx hy
    exact .inl ⟨_, _, rfl, rfl, h H ρ _ (.refl r) rfl⟩
  · simp only [RV] at hx hy
    subst hx hy
    exact .inr ⟨_, _, rfl, rfl, h H ρ _ (.refl r) rfl⟩
  · exact h.elim
/-- is None -/
def pIsN (x y : PV) (st : Sto) : Res PV := match y with
  | .non => (match x with
    | .non => .ok (.bl true) st
    | _ => .ok (.bl false) st)
  | _ => .bad
def pNotN (x y : PV) (st : Sto) : Res PV := match y with
  | .non => (match x with
    | .non => .ok (.bl false) st
    | _ => .ok (.bl true) st)
  | _ => .bad
theorem non_iff {W : Wd} {H : Hp} {ρ : Nat → Addr} {n : Nat} {p : PV} {x : V} (h : RV W H ρ n p x) : decide (x = .non) = (match p with | .non => true | _ => false) := by
  cases p with
  | non =>
    simp only [RV] at h
    subst h
    rfl
  | tup xs =>
    obtain ⟨a, vs, rfl, _⟩ := h
    rfl
  | ref k =>
    obtain ⟨_, rfl⟩ := h
    rfl
  | fn k =>
    obtain ⟨_, _, rfl⟩ := h
    rfl
  | _ =>
    simp only [RV] at h
    subst h
    rfl
theorem ok_isN : OpOK J pIsN (fun x y H Q => y = .non ∧ Q (.bl (decide (x = .non))) H) := by
  intro E H ρ st p q x y Q r hx hy h
  unfold pIsN at h
  split at h
  · simp only [RV] at hy
    subst hy
    refine ⟨rfl, ?_⟩
    rw [non_iff hx]
    cases p <;> exact h H ρ _ (.refl r) rfl
  · exact h.elim
theorem ok_notN : OpOK J pNotN (fun x y H Q => y = .non ∧ Q (.bl (!decide (x = .non))) H) := by
  intro E H ρ st p q x y Q r hx hy h
  unfold pNotN at h
  split at h
  · simp only [RV] at hy
    subst hy
    refine ⟨rfl, ?_⟩
    rw [non_iff hx]
    cases p <;> exact h H ρ _ (.refl r) rfl
  · exact h.elim
end
end Mi
end
section
set_option maxRecDepth 100000
set_option maxHeartbeats 4000000
namespace Mi
open PySem PySem.Spec PyProof.Rows L2
section
variable {J : Jx}
/-! ### arithmetic -/
def pAdd (x y : PV) (st : Sto) : Res PV := match x, y with
  | .int i, .int j => .ok (.int (i + j)) st
  | .int i, .bl k => .ok (.int (i + b2i k)) st
  | .str a, .str b => if szOk (a.length + b.length) = true then .ok (.str (a ++ b)) st else .bad
  | .tup a, .tup b => if szOk (a.length + b.length) = true then .ok (.tup (a ++ b)) st else .bad
  | .ref a, .ref b => match st[a]? with
    | some (.lst xs) => match st[b]? with
      | some (.lst ys) => if szOk (xs.length + ys.length) = true then .ok (.ref st.length) (st ++ [.lst (xs ++ ys)]) else .bad
      | _ => .bad
    | _ => .bad
  | _, _ => .bad
def rAddA (K : PySem.W.Frag) : R2 := fun x y H Q => rI0 (fun i j => .int (i + j)) x y H Q ∨ (∃ i k, x = .int i ∧ y = .bl k ∧ Q (.int (i + b2i k)) H) ∨ (∃ i j, x = .str i ∧ y = .str j ∧ i.length + j.length ≤ sizeLine ∧ Q (.str (i ++ j)) H) ∨ rCatA K x y H Q ∨ rCat x y H Q
theorem str_app (a b : List Nat) : (⟨(a ++ b).toArray⟩ : Str) = (⟨a.toArray⟩ : Str) ++ ⟨b.toArray⟩ := by
  show (⟨(a ++ b).toArray⟩ : Str) = ⟨a.toArray ++ b.toArray⟩
  simp
theorem str_len (a : List Nat) : (⟨a.toArray⟩ : Str).length = a.length := by
  show a.toArray.size = a.length
  simp
theorem ok_add : OpOK J pAdd (rAddA J.W.K) := by
  intro E H ρ st p q x y Q r hx hy h
  unfold pAdd at h
  split at h
  · simp only [RV] at hx hy
    subst hx hy
    exact .inl ⟨_, _, rfl, rfl, h H ρ _ (.refl r) rfl⟩
  · simp only [RV] at hx hy
    subst hx hy
    exact .inr (.inl ⟨_, _, rfl, rfl, h H ρ _ (.refl r) rfl⟩)
  · split at h
    · rename_i a b hz
      simp only [RV] at hx hy
      subst hx hy
      exact .inr (.inr (.inl ⟨_, _, rfl, rfl, by rw [str_len, str_len]; exact szOk_le hz, by rw [← str_app]; exact h H ρ _ (.refl r) rfl⟩))
    · exact h.elim
  · split at h
    · rename_i a b hz
      obtain ⟨c, vs, rfl, s1, t1⟩ := hx
      obtain ⟨d, us, rfl, s2, t2⟩ := hy
      refine .inr (.inr (.inr (.inl ⟨c, d, vs, us, rfl, rfl, s1, s2, by rw [← t1.length, ← t2.length]; exact szOk_le hz, fun e => ?_, fun _ e => ?_, fun _ _ w hw => ?_⟩)))
      · refine h H ρ _ (.refl r) ⟨d, us, rfl, s2, ?_⟩
        have := t1.append t2
        rw [e] at this
        exact this
      · refine h H ρ _ (.refl r) ⟨c, vs, rfl, s1, ?_⟩
        have := t1.append t2
        rw [e, List.append_nil] at this
        exact this
      · exact h _ ρ _ (.newT r hw) (rv_newT hw (t1.append t2))
    · exact h.elim
  · split at h
    · rename_i xs e1
      split at h
      · rename_i ys e2
        split at h
        · rename_i hz
          obtain ⟨_, rfl⟩ := hx
          obtain ⟨_, rfl⟩ := hy
          obtain ⟨vs, a1, a2⟩ := r.lst e1
          obtain ⟨us, b1, b2⟩ := r.lst e2
          refine .inr (.inr (.inr (.inr ⟨_, _, vs, us, rfl, rfl, a1, b1, by rw [← a2.length, ← b2.length]; exact szOk_le hz, fun w hw => ?_⟩)))
          exact h _ _ _ (.newL r hw (a2.append b2)) ⟨by simp, by rw [put_same]⟩
        · exact h.elim
      · exact h.elim
    · exact h.elim
  · exact h.elim
def pInt (C : Int → Int → Bool) (f : Int → Int → Int) (x y : PV) (st : Sto) : Res PV := match x, y with
  | .int i, .int j => if C i j = true then .ok (.int (f i j)) st else .bad
  | _, _ => .bad
theorem ok_int {C : Int → Int → Bool} {f : Int → Int → Int} {P : Int → Int → Prop} (hp : ∀ i j, C i j = true → P i j) : OpOK J (pInt C f) (rI P fun i j => .int (f i j)) := by
  intro E H ρ st p q x y Q r hx hy h
  unfold pInt at h
  split at h
  · split at h
    · rename_i hc
      simp only [RV] at hx hy
      subst hx hy
      exact ⟨_, _, rfl, rfl, hp _ _ hc, h H ρ _ (.refl r) rfl⟩
    · exact h.elim
  · exact h.elim
def pSub := pInt (fun _ _ => true) fun i j => i - j
def cMul (i j : Int) : Bool := decide (i.natAbs.log2 + j.natAbs.log2 < 1000000)
def cPos (_ j : Int) : Bool := decide (0 < j)
def cDiv (_ j : Int) : Bool := decide (0 < j) && decide (j.natAbs.log2 < 9000)
def cPow (i j : Int) : Bool := decide (0 ≤ j) && decide ((Builtin.Int.intBits i : Int) * j ≤ 2 ^ 27)
def pFdiv := pInt cDiv fun i j => i / j
def pMod := pInt cPos fun i j => i % j
def pPow := pInt cPow fun i j => i ^ j.toNat
theorem op_powB {X : Cx} : OpR X (binaryOp .Pow) (rI (fun i j => 0 ≤ j ∧ (Builtin.Int.intBits i : Int) * j ≤ 2 ^ 27) fun i j => .int (i ^ j.toNat)) := opI fun _ _ _ _ _ _ _ hc q => pow_int hc.1 hc.2 q
theorem op_subT {X : Cx} : OpR X (binaryOp .Sub) (rI (fun _ _ => True) fun i j => .int (i - j)) := opI fun _ _ _ _ _ _ _ _ q => sub_int q
theorem ok_sub : OpOK J pSub (rI (fun _ _ => True) fun i j => .int (i - j)) := ok_int fun _ _ _ => trivial
theorem ok_fdiv : OpOK J pFdiv (rI CDivW fun i j => .int (i / j)) := ok_int fun i j h => by
  unfold cDiv at h
  rw [Bool.and_eq_true] at h
  exact ⟨of_decide_eq_true h.1, of_decide_eq_true h.2⟩
theorem ok_mod : OpOK J pMod (rI (fun _ j => 0 < j) fun i j => .int (i % j)) := ok_int fun i j h => of_decide_eq_true h
theorem ok_pow : OpOK J pPow (rI (fun i j => 0 ≤ j ∧ (Builtin.Int.intBits i : Int) * j ≤ 2 ^ 27) fun i j => .int (i ^ j.toNat)) := ok_int fun i j h => by
  unfold cPow at h
  rw [Bool.and_eq_true] at h
  exact ⟨of_decide_eq_true h.1, of_decide_eq_true h.2⟩
def cRep (n : Nat) (k : Int) : Bool := Nat.blt 0 n && decide (2 ≤ k) && Nat.ble (n * k.toNat) 1000000
def cRepS (n : Nat) (k : Int) : Bool := Nat.blt 0 n && decide (1 ≤ k) && Nat.ble (n * k.toNat) 1000000
def pMul (x y : PV) (st : Sto) : Res PV := match x, y with
  | .int i, .int j => if cMul i j = true then .ok (.int (i * j)) st else .bad
  | .ref a, .int k => match st[a]? with
    | some (.lst xs) => if (decide (-(2 ^ 63) ≤ k) && decide (k < 2 ^ 63) && szOk (xs.length * k.toNat)) = true then .ok (.ref st.length) (st ++ [.lst (List.replicate k.toNat xs).flatten]) else .bad
    | _ => .bad
  | .tup xs, .int k => if cRep xs.length k = true then .ok (.tup (List.replicate k.toNat xs).flatten) st else if (Nat.blt 0 xs.length && decide (k = 0)) = true then .ok (.tup []) st else .bad
  | .str s, .int k => if cRepS s.length k = true then .ok (.str (List.replicate k.toNat s).flatten) st else .bad
  | _, _ => .bad
def rRepS : R2 := fun x y H Q => ∃ (s : List Nat) (k : Int), x = .str ⟨s.toArray⟩ ∧ y = .int k ∧ cRepS s.length k = true ∧ Q (.str ⟨(List.replicate k.toNat s).flatten.toArray⟩) H
theorem cRep_of {n : Nat} {k : Int} (h : cRep n k = true) : 0 < n ∧ 2 ≤ k ∧ n * k.toNat ≤ 1000000 ∧ n ≤ 1000000 ∧ k ≤ 1000000 := by
  unfold cRep at h
  rw [Bool.and_eq_true, Bool.and_eq_true] at h
  have h1 : 0 < n := Nat.le_of_ble_eq_true h.1.1
  have h2 : 2 ≤ k := of_decide_eq_true h.1.2
  have h3 : n * k.toNat ≤ 1000000 := Nat.le_of_ble_eq_true h.2
  have h4 : n * 1 ≤ n * k.toNat := Nat.mul_le_mul_left _ (by omega)
  have h5 : 1 * k.toNat ≤ n * k.toNat := Nat.mul_le_mul_right _ h1
  exact ⟨h1, h2, h3, by omega, by omega⟩
/-- a tuple, many times over -/
def rRepTB (K : PySem.W.Frag) : R2 := fun x y H Q => ∃ l k xs, x = .ref l ∧ y = .int k ∧ SqT K H l xs ∧ cRep xs.length k = true ∧ ∀ p, H p = none → Q (.ref p) (upd H p (.tup (List.replicate k.toNat xs).flatten))
theorem op_repTB {X : Cx} : OpR X (binaryOp .Mult) (rRepTB X.K) := by
  intro pins s σ H x y v u Q I rx ry h
  obtain ⟨l, k, xs, rfl, rfl, hT, hcr, q⟩ := h
  obtain ⟨h1, h2, h3, h4, h5⟩ := cRep_of hcr
  cases rx
  obtain ⟨t, rfl⟩ := ry
  obtain ⟨its, r, ⟨⟨cls, dd, data, sl⟩, ho, hc, n, hd⟩, hs⟩ := I.tuple hT
  simp only at hc hd
  subst hc hd
  have hle := r.length
  have hi : its.toArray.isEmpty = false := by
    cases its with
    | nil =>
      rw [List.length_nil] at hle
      omega
    | cons a b => rfl
  have hz : its.toArray.size = xs.length := by rw [List.size_toArray, hle]
  have hm : ((its.toArray.size : Nat) : Int) * k ≤ 1000000 := by
    rw [hz, show k = ((k.toNat : Nat) : Int) by omega, ← Int.natCast_mul]
    omega
  have hfl : (List.replicate k.toNat its).flatten.length ≤ 1000000 := by
    rw [PyProof.Rows.lm_len_rep_flat, ← hle, Nat.mul_comm]
    exact h3
  have hfx : (List.replicate k.toNat xs).flatten.length ≤ 1000000 := by
    rw [PyProof.Rows.lm_len_rep_flat, Nat.mul_comm]
    exact h3
  have a0 : (decide (k < -(2 ^ 63)) || decide (k ≥ 2 ^ 63)) = false := by rw [decide_eq_false (by omega), decide_eq_false (by omega)]; rfl
  have a1 : (its.toArray.isEmpty || k == 1) = false := by rw [hi]; exact beq_eq_false_iff_ne.mpr (by omega)
  have a2 : (decide (k ≤ 0) || its.toArray.isEmpty) = false := by rw [hi, decide_eq_false (by omega)]; rfl
  have a4 : Builtin.Tuple.tupleTooMany (((its.toArray.size : Nat) : Int) * k) = false := by unfold Builtin.Tuple.tupleTooMany; rw [sizeLine_eq]; exact decide_eq_false (by omega)
  have inner := tuple_mulW l its.toArray n dd sl k t a0 a1 a2 (by omega) a4 (by rw [size_rep, List.size_toArray, sizeLine_eq]; omega)
  refine wpAny_binaryOp_repeat_ref (T := "tuple") (U := "int") (by decide) ⟨_, ho, rfl⟩ (fun s' => typeIs_int s' k t) noFill_tuple_mul F.fills_int_mul F.slot_int_rmul repeat_tuple F.slot_int_index.lookup (call_meets F.slot_int_rmul (typeIs_int s k t) F.entry_int_rmul (F.args_int_rmul_2 _ _) (int_rmul_tuple k t l its.toArray n dd sl) ⟨ho, rfl, ⟨_, ho, rfl⟩, call_meets F.slot_tuple_mul ⟨_, ho, rfl⟩ F.entry_tuple_mul (F.args_tuple_mul_2 _ _) inner ⟨ho, ?_⟩⟩)
  rw [size_rep]
  exact ⟨.ref s.heap.objs.size, _, I.laid (t' := s.toks) (o := .tup (List.replicate k.toNat xs).flatten) (fun b ob q => Heap.get?_push_of_some _ q) (Nat.le_refl _) ⟨by rw [sizeLine_eq]; omega, _, r.rep k.toNat, IsTup.new _ _⟩, rfl, q _ (I.hok.fresh (Nat.le_refl _))⟩
/-- a tuple, no time -/
def rRep0 (K : PySem.W.Frag) : R2 := fun x y H Q => ∃ l xs, x = .ref l ∧ y = .int 0 ∧ SqT K H l xs ∧ 0 < xs.length ∧ ∀ p, H p = none → Q (.ref p) (upd H p (.tup []))
theorem tuple_mul0 (l : Addr) (items : Array Value) (n : Nat) (dd : Option Addr) (sl : Array (Option Value)) (u : Tok) (c1 : (items.isEmpty || (0 : Int) == 1) = false) :
    Meets (Builtin.«tuple.__mul__» ⟨[.ref l, .int 0 u], []⟩) (fun _ R s => s.heap.get? l = some { cls := .type "tuple", dict := dd, data := .seq items n, slots := sl } ∧
      R (.ok (.ret (Value.ref s.heap.objs.size))) { s with heap := s.heap.push { cls := Value.type "tuple", data := Data.seq #[] }, toks := s.toks }) :=
  .of_wp fun prog w A R s h => by
    obtain ⟨hp, g, d, tk, os⟩ := s
    obtain ⟨hl, h⟩ := h
    have f1 := AutoSeq1.idx_int
    wp_walk using wpAny_loadPart' hl
    repeat (first
      | (refine wpAny_ite_false (decide_eq_false (by rw [c1]; exact Bool.false_ne_true)) ?_; wp_walk using wpAny_loadPart' hl)
      | (refine wpAny_ite_true (decide_eq_true (by rfl)) ?_; wp_walk using wpAny_loadPart' hl))
    exact ⟨_, rfl, h⟩
theorem op_rep0 {X : Cx} : OpR X (binaryOp .Mult) (rRep0 X.K) := by
  intro pins s σ H x y v u Q I rx ry h
  obtain ⟨l, xs, rfl, rfl, hT, h0, q⟩ := h
  cases rx
  obtain ⟨t, rfl⟩ := ry
  obtain ⟨its, r, ⟨⟨cls, dd, data, sl⟩, ho, hc, n, hd⟩, hs⟩ := I.tuple hT
  simp only at hc hd
  subst hc hd
  have hle := r.length
  have hi : its.toArray.isEmpty = false := by
    cases its with
    | nil =>
      rw [List.length_nil] at hle
      omega
    | cons a b => rfl
  have a1 : (its.toArray.isEmpty || (0 : Int) == 1) = false := by rw [hi]; rfl
  have inner := tuple_mul0 l its.toArray n dd sl t a1
  refine wpAny_binaryOp_repeat_ref (T := "tuple") (U := "int") (by decide) ⟨_, ho, rfl⟩ (fun s' => typeIs_int s' 0 t) noFill_tuple_mul F.fills_int_mul F.slot_int_rmul repeat_tuple F.slot_int_index.lookup (call_meets F.slot_int_rmul (typeIs_int s 0 t) F.entry_int_rmul (F.args_int_rmul_2 _ _) (int_rmul_tuple 0 t l its.toArray n dd sl) ⟨ho, rfl, ⟨_, ho, rfl⟩, call_meets F.slot_tuple_mul ⟨_, ho, rfl⟩ F.entry_tuple_mul (F.args_tuple_mul_2 _ _) inner ⟨ho, ?_⟩⟩)
  exact ⟨.ref s.heap.objs.size, _, I.laid (t' := s.toks) (o := .tup []) (fun b ob q => Heap.get?_push_of_some _ q) (Nat.le_refl _) ⟨by show 0 ≤ sizeLine; omega, _, .nil, IsTup.new _ _⟩, rfl, q _ (I.hok.fresh (Nat.le_refl _))⟩
def rMulA (K : PySem.W.Frag) : R2 := fun x y H Q => rI CMulW (fun i j => .int (i * j)) x y H Q ∨ rRep x y H Q ∨ rRepTB K x y H Q ∨ rRepS x y H Q ∨ rRep0 K x y H Q
theorem fold_repN (s : List Nat) : ∀ (k : Nat) (acc : List Nat), List.foldl (fun x1 x2 => x1 ++ x2) acc.toArray (List.replicate k s.toArray) = (acc ++ (List.replicate k s).flatten).toArray
  | 0, acc => by simp
  | k + 1, acc => by
    rw [List.replicate_succ, List.foldl_cons, List.replicate_succ, List.flatten_cons, ← List.append_assoc, ← fold_repN s k (acc ++ s)]
    congr 1
    simp
theorem cRepS_of {n : Nat} {k : Int} (h : cRepS n k = true) : 0 < n ∧ 1 ≤ k ∧ n * k.toNat ≤ 1000000 ∧ n ≤ 1000000 ∧ k ≤ 1000000 := by
  unfold cRepS at h
  rw [Bool.and_eq_true, Bool.and_eq_true] at h
  obtain ⟨⟨h1, h2⟩, h3⟩ := h
  have h1 : 0 < n := Nat.le_of_ble_eq_true h1
  have h2 := of_decide_eq_true h2
  have h3 := Nat.le_of_ble_eq_true h3
  have a : n * 1 ≤ n * k.toNat := Nat.mul_le_mul_left n (by omega)
  have b : 1 * k.toNat ≤ n * k.toNat := Nat.mul_le_mul_right _ h1
  exact ⟨h1, h2, h3, by omega, by omega⟩
theorem op_repS {X : Cx} : OpR X (binaryOp .Mult) rRepS := by
  intro pins s σ H x y v u Q I rx ry h
  obtain ⟨z, k, rfl, rfl, hc, q⟩ := h
  obtain ⟨t, rfl⟩ := rx
  obtain ⟨t', rfl⟩ := ry
  obtain ⟨h1, h3, h6, h2, h4⟩ := cRepS_of hc
  have hl : (⟨z.toArray⟩ : Str).length = z.length := by
    show z.toArray.size = _
    simp
  have e : Txt.mul ⟨z.toArray⟩ k = ⟨(List.replicate k.toNat z).flatten.toArray⟩ := by
    unfold Txt.mul
    by_cases hk : k = 1
    · subst hk
      rw [if_neg (by omega), if_pos (by rfl)]
      simp
    rw [if_neg (by omega), if_neg (fun hh => by
      rw [Bool.or_eq_true, beq_iff_eq, beq_iff_eq, hl] at hh
      omega)]
    congr 1
    have := fold_repN z k.toNat []
    rw [List.nil_append] at this
    exact this
  refine SB.mul ⟨?_, fun _ _ => ?_, fun _ _ => ?_⟩ fun t'' tk => ?_
  · rw [decide_eq_false (by omega), decide_eq_false (by omega)]
    rfl
  · rw [hl]
    have h5 : (1000000 : Int) ≤ (2 ^ 63 - 1) / k := by
      rw [Int.le_ediv_iff_mul_le (by omega)]
      omega
    omega
  · rw [hl]
    unfold Builtin.Str.tooLong
    refine decide_eq_false ?_
    rw [sizeLine_eq]
    omega
  · rw [e]
    exact ⟨.str _, H, I.tok _, ⟨_, rfl⟩, q⟩
theorem RVs.rep {W : Wd} {H : Hp} {ρ : Nat → Addr} {n : Nat} {ps : List PV} {vs : List V} (h : RVs W H ρ n ps vs) : ∀ k : Nat, RVs W H ρ n (List.replicate k ps).flatten (List.replicate k vs).flatten
  | 0 => rfl
  | k + 1 => by
    rw [List.replicate_succ, List.replicate_succ, List.flatten_cons, List.flatten_cons]
    exact h.append (h.rep k)
theorem ok_mul : OpOK J pMul (rMulA J.W.K) := by
  intro E H ρ st p q x y Q r hx hy h
  unfold pMul at h
  split at h
  · split at h
    · rename_i hc
      simp only [RV] at hx hy
      subst hx hy
      unfold cMul at hc
      have hc2 := of_decide_eq_true hc
      exact .inl ⟨_, _, rfl, rfl, hc2, h H ρ _ (.refl r) rfl⟩
    · exact h.elim
  · split at h
    · rename_i xs e1
      split at h
      · rename_i hc
        rw [Bool.and_eq_true, Bool.and_eq_true] at hc
        obtain ⟨⟨h1, h2⟩, h3⟩ := hc
        obtain ⟨_, rfl⟩ := hx
        simp only [RV] at hy
        subst hy
        obtain ⟨vs, a1, a2⟩ := r.lst e1
        refine .inr (.inl ⟨_, _, vs, rfl, rfl, a1, of_decide_eq_true h1, of_decide_eq_true h2, by rw [← a2.length]; exact szOk_le h3, fun w hw => ?_⟩)
        exact h _ _ _ (.newL r hw (a2.rep _)) ⟨by simp, by rw [put_same]⟩
      · exact h.elim
    · exact h.elim
  · split at h
    · rename_i hc
      obtain ⟨a, vs, rfl, s1, t1⟩ := hx
      simp only [RV] at hy
      subst hy
      rw [t1.length] at hc
      exact .inr (.inr (.inl ⟨a, _, vs, rfl, rfl, s1, hc, fun w hw => h _ ρ _ (.newT r hw) (rv_newT hw (t1.rep _))⟩))
    · split at h
      · rename_i hc
        rw [Bool.and_eq_true] at hc
        obtain ⟨a, vs, rfl, s1, t1⟩ := hx
        simp only [RV] at hy
        subst hy
        have hk := of_decide_eq_true hc.2
        subst hk
        rw [t1.length] at hc
        exact .inr (.inr (.inr (.inr ⟨a, vs, rfl, rfl, s1, Nat.le_of_ble_eq_true hc.1, fun w hw => h _ ρ _ (.newT r hw) (rv_newT hw rfl)⟩)))
      · exact h.elim
  · split at h
    · rename_i hc
      simp only [RV] at hx hy
      subst hx hy
      exact .inr (.inr (.inr (.inl ⟨_, _, rfl, rfl, hc, h H ρ _ (.refl r) rfl⟩)))
    · exact h.elim
  · exact h.elim
def pNeg (x : PV) (st : Sto) : Res PV := match x with
  | .int i => .ok (.int (-i)) st
  | _ => .bad
theorem ok_neg : UnOK J pNeg (rU fun i => .int (-i)) := by
  intro E H ρ st p x Q r hx h
  unfold pNeg at h
  split at h
  · simp only [RV] at hx
    subst hx
    exact ⟨_, rfl, h H ρ _ (.refl r) rfl⟩
  · exact h.elim
/-! ### subscripts -/
def pIx (x y : PV) (st : Sto) : Res PV := match y with
  | .int i => match x with
    | .tup xs => match atI xs i with
      | some v => .ok v st
      | none => .bad
    | .str s => if szOk s.length = true then (match atI s i with
      | some c => .ok (.str [c]) st
      | none => .bad) else .bad
    | .ref k => match lstAt st k with
      | some xs => match atI xs i with
        | some v => .ok v st
        | none => .bad
      | none => .bad
    | _ => .bad
  | _ => .bad
theorem atI_rel {W : Wd} {H : Hp} {ρ : Nat → Addr} {n : Nat} {ps : List PV} {vs : List V} {i : Int} {p : PV} (h : RVs W H ρ n ps vs) (e : atI ps i = some p) : ∃ v, atI vs i = some v ∧ RV W H ρ n p v := by
  unfold atI at e ⊢
  rw [← h.length]
  cases hj : ixN ps.length i with
  | none =>
    rw [hj] at e
    cases e
  | some j =>
    rw [hj] at e
    exact h.get e
theorem ok_ix : OpOK J pIx (rIx J.W.K) := by
  intro E H ρ st p q x y Q r hx hy h
  unfold pIx at h
  split at h
  · rename_i i
    simp only [RV] at hy
    subst hy
    split at h
    · split at h
      · rename_i v ev
        obtain ⟨a, vs, rfl, s, t⟩ := hx
        obtain ⟨w, e, rw'⟩ := atI_rel t ev
        exact .inr (.inl ⟨a, vs, i, w, rfl, rfl, s, e, h H ρ w (.refl r) rw'⟩)
      · exact h.elim
    · split at h
      · rename_i hz
        split at h
        · rename_i c ec
          simp only [RV] at hx
          subst hx
          exact .inr (.inr ⟨_, i, c, rfl, rfl, by rw [str_len]; exact szOk_le hz, by simpa using ec, h H ρ _ (.refl r) rfl⟩)
        · exact h.elim
      · exact h.elim
    · split at h
      · rename_i xs hl
        split at h
        · rename_i v ev
          obtain ⟨_, rfl⟩ := hx
          obtain ⟨vs, s, t⟩ := r.seq hl
          obtain ⟨w, e, rw'⟩ := atI_rel t ev
          exact .inl ⟨_, vs, i, w, rfl, rfl, s, e, h H ρ w (.refl r) rw'⟩
        · exact h.elim
      · exact h.elim
    · exact h.elim
  · exact h.elim
/-! ### truth -/
def pTru (x : PV) (st : Sto) : Option Bool := match x with
  | .non => some false
  | .bl b => some b
  | .int i => some (i != 0)
  | .str s => if szOk s.length = true then some (!s.isEmpty) else none
  | .tup xs => some (!xs.isEmpty)
  | .ref k => match st[k]? with
    | some (.lst xs) => some (!xs.isEmpty)
    | some (.fz xs) => some (!xs.isEmpty)
    | some (.dct xs) => some (!xs.isEmpty)
    | some (.dlk _) => none
    | none => none
  | _ => none
theorem RVs.emp {W : Wd} {H : Hp} {ρ : Nat → Addr} {n : Nat} {ps : List PV} {vs : List V} (h : RVs W H ρ n ps vs) : vs.isEmpty = ps.isEmpty := by
  cases ps with
  | nil =>
    have h : vs = [] := h
    subst h
    rfl
  | cons p ps =>
    obtain ⟨v, r, rfl, _⟩ := h
    rfl
theorem tru_V {W : Wd} {H : Hp} {ρ : Nat → Addr} {st : Sto} {p : PV} {x : V} {b : Bool} (r : RSt W H ρ st) (hx : RV W H ρ st.length p x) (h : pTru p st = some b) : TruV W.K x H b := by
  unfold pTru at h
  split at h
  · cases h
    simp only [RV] at hx
    subst hx
    rfl
  · cases h
    simp only [RV] at hx
    subst hx
    rfl
  · cases h
    simp only [RV] at hx
    subst hx
    rfl
  · split at h
    · rename_i s hz
      cases h
      simp only [RV] at hx
      subst hx
      refine ⟨by rw [str_len]; exact szOk_le hz, ?_⟩
      rw [str_len]
      cases s with
      | nil => rfl
      | cons c s =>
        show true = _
        symm
        rw [bne_iff_ne]
        simp only [List.length_cons]
        omega
    · cases h
  · cases h
    obtain ⟨a, vs, rfl, s, t⟩ := hx
    exact .inr (.inl ⟨vs, s, by rw [t.emp]⟩)
  · obtain ⟨_, rfl⟩ := hx
    split at h
    · rename_i xs e
      cases h
      obtain ⟨vs, h1, h2⟩ := r.obj _ _ e
      exact .inl ⟨vs, .of h1, by rw [h2.emp]⟩
    · rename_i xs e
      cases h
      obtain ⟨vs, h1, h2⟩ := r.obj _ _ e
      exact .inl ⟨vs, h1.sq, by rw [h2.emp]⟩
    · rename_i xs e
      cases h
      obtain ⟨vs, h1, h2⟩ := r.obj _ _ e
      refine .inr (.inr ⟨vs, h1, ?_⟩)
      cases xs with
      | nil =>
        have h2 : vs = [] := h2
        subst h2
        rfl
      | cons q xs =>
        obtain ⟨v, w, rfl, _⟩ := h2
        rfl
    · cases h
    · cases h
  · cases h
end
end Mi
end
section
set_option maxRecDepth 100000
set_option maxHeartbeats 4000000
namespace Mi
open PySem PySem.Spec PyProof.Rows L2
/-! ### combinators -/
def dVar (i : Nat) : DE := fun _ env st => match env[i]? with
  | some (some p) => .ok p st
  | _ => .bad
def dC (p : PV) : DE := fun _ _ st => .ok p st
def dBin (f : PV → PV → Sto → Res PV) (a b : DE) : DE := fun th env st => (a th env st).bind fun x st1 => (b th env st1).bind fun y st2 => f x y st2
def dUn (f : PV → Sto → Res PV) (a : DE) : DE := fun th env st => (a th env st).bind fun x st1 => f x st1
def dNil : DL := fun _ _ st => .ok [] st
def dCons (a : DE) (r : DL) : DL := fun th env st => (a th env st).bind fun x st1 => (r th env st1).bind fun xs st2 => .ok (x :: xs) st2
def dApp (f : List PV → Sto → Res PV) (a : DL) : DE := fun th env st => (a th env st).bind fun xs st1 => f xs st1
def dMet (ty : PV → Sto → Bool) (f : PV → List PV → Sto → Res PV) (o : DE) (a : DL) : DE := fun th env st => (o th env st).bind fun x st1 => if ty x st1 = true then (a th env st1).bind fun xs st2 => f x xs st2 else .bad
def fTup (xs : List PV) (st : Sto) : Res PV := if szOk xs.length = true then .ok (.tup xs) st else .bad
def fLst (xs : List PV) (st : Sto) : Res PV := if szOk xs.length = true then .ok (.ref st.length) (st ++ [.lst xs]) else .bad
/-- tests -/
def dTst (a : DE) : DB := fun th env st => (a th env st).bind fun x st1 => match pTru x st1 with
  | some b => .ok b st1
  | none => .bad
def dTB (a : DE) : DB := fun th env st => (a th env st).bind fun x st1 => match x with
  | .bl b => .ok b st1
  | _ => .bad
def dAndT (a b : DB) : DB := fun th env st => (a th env st).bind fun x st1 => match x with
  | true => b th env st1
  | false => .ok false st1
def dOrT (a b : DB) : DB := fun th env st => (a th env st).bind fun x st1 => match x with
  | true => .ok true st1
  | false => b th env st1
def dNotT (a : DB) : DB := fun th env st => (a th env st).bind fun x st1 => .ok (!x) st1
def dAnd (a b : DE) : DE := fun th env st => (a th env st).bind fun x st1 => match x with
  | .bl true => b th env st1
  | .bl false => .ok (.bl false) st1
  | _ => .bad
def dOr (a b : DE) : DE := fun th env st => (a th env st).bind fun x st1 => match x with
  | .bl true => .ok (.bl true) st1
  | .bl false => b th env st1
  | _ => .bad
def dNot (a : DE) : DE := fun th env st => (a th env st).bind fun x st1 => match pTru x st1 with
  | some b => .ok (.bl (!b)) st1
  | none => .bad
def dIf (c : DB) (a b : DE) : DE := fun th env st => (c th env st).bind fun x st1 => match x with
  | true => a th env st1
  | false => b th env st1
/-- a op b op c -/
def dChain (f g : PV → PV → Sto → Res PV) (a b c : DE) : DE := fun th env st => (a th env st).bind fun x st1 => (b th env st1).bind fun y st2 => (f x y st2).bind fun z st3 => match z with
  | .bl true => (c th env st3).bind fun w st4 => g y w st4
  | .bl false => .ok (.bl false) st3
  | _ => .bad

section
variable {X : Cx} {J : Jx}
structure XJ (X : Cx) (J : Jx) : Prop where
  K : J.W.K = X.K
  st : J.tr.Stays J.W
  tk : Takes X J.Wx
variable {a b c : Expr} {da db dc : DE} {pos : Pos}
theorem xe_var {i : Nat} {x : Str} (hN : X.N[i]? = some x) (hv : Vis X.env.scope x) (hd : (x == ("__debug__" : Str)) = false := by decide) (hcd : (x == ("__classdict__" : Str)) = false := by decide) : PE X (.Name x pos) (rdE J (dVar i)) :=
  PE.imp (pe_var hN hv hd hcd) fun σ H Q h => by
    obtain ⟨ρ, th, env, st, S, g⟩ := h
    unfold dVar at g
    split at g
    · rename_i p e
      obtain ⟨v, h1, h2⟩ := S.env.get i p e
      exact ⟨v, h1, g H ρ v (.refl S.rs) h2⟩
    · exact g.elim
/-- what stands for itself -/
theorem rd_c {p : PV} {v : V} (hp : ∀ H ρ n, RV J.W H ρ n p v) {σ : L2.St} {H : Hp} {Q : VK} (h : rdE J (dC p) σ H Q) : Q v H := by
  obtain ⟨ρ, th, env, st, S, g⟩ := h
  exact g H ρ v (.refl S.rs) (hp _ _ _)
theorem xe_int {i : Int} {j} : PE X (.Constant (.int i) j pos) (rdE J (dC (.int i))) := PE.imp pe_int fun _ _ _ h => rd_c (p := .int i) (v := .int i) (fun _ _ _ => rfl) h
theorem xe_bl {i : Bool} {j} : PE X (.Constant (.bool i) j pos) (rdE J (dC (.bl i))) := PE.imp pe_bl fun _ _ _ h => rd_c (p := .bl i) (v := .bl i) (fun _ _ _ => rfl) h
theorem xe_non {j} : PE X (.Constant .none j pos) (rdE J (dC .non)) := PE.imp pe_non fun _ _ _ h => rd_c (p := .non) (v := .non) (fun _ _ _ => rfl) h
theorem xe_str {x : Str} {s : List Nat} {j} (hx : x = ⟨s.toArray⟩) : PE X (.Constant (.str x) j pos) (rdE J (dC (.str s))) := PE.imp pe_str fun _ _ _ h => by
  rw [hx]
  exact rd_c (p := .str s) (v := .str ⟨s.toArray⟩) (fun _ _ _ => rfl) h
theorem xe_glob {x : Str} {v : V} {u : Value} {p : PV} (hg : Gl X x) (hm : X.mg x = some u) (r : RelV v u) (hp : ∀ H ρ n, RV J.W H ρ n p v) (hd : (x == ("__debug__" : Str)) = false := by decide) : PE X (.Name x pos) (rdE J (dC p)) :=
  PE.imp (pe_glob hg hm r hd) fun _ _ _ h => rd_c hp h
theorem rd_bin {f : PV → PV → Sto → Res PV} {r : R2} (J2 : XJ X J) (hk : OpOK J f r) {σ : L2.St} {H : Hp} {Q : VK} (h : rdE J (dBin f da db) σ H Q) : tOp r (rdE J da) (rdE J db) σ H Q := by
  refine rd_bind J2.st h fun ρ th env st v x H1 S rv g => ?_
  refine rd_of S (gR.bind g fun w st2 H2 ρ2 y _ s2 r2 g2 => ?_)
  exact hk _ H2 ρ2 st2 v w x y Q s2.rs (s2.rv rv) r2 g2
theorem xe_bin {op : Operator} {f : PV → PV → Sto → Res PV} {r : R2} (J2 : XJ X J) (ho : OpR X (binaryOp op) r) (hk : OpOK J f r) (ha : PE X a (rdE J da)) (hb : PE X b (rdE J db)) : PE X (.BinOp a op b pos) (rdE J (dBin f da db)) :=
  PE.imp (pe_op ho ha hb) fun _ _ _ h => rd_bin J2 hk h
theorem xe_un {op : UnaryOp} {f : PV → Sto → Res PV} {r : V → Hp → VK → Prop} (J2 : XJ X J) (ho : UnR X (unaryOp op) r) (hk : UnOK J f r) (ha : PE X a (rdE J da)) : PE X (.UnaryOp op a pos) (rdE J (dUn f da)) :=
  PE.imp (pe_un ho ha) fun _ _ _ h => rd_bind J2.st h fun ρ th env st v x H1 S rv g => hk _ H1 ρ st v x _ S.rs rv g
theorem xe_cmp {op : CmpOp} {f : PV → PV → Sto → Res PV} {r : R2} (J2 : XJ X J) (ho : OpR X (compareOp op) r) (hk : OpOK J f r) (ha : PE X a (rdE J da)) (hb : PE X b (rdE J db)) (hm : behindInMarks op b = false) : PE X (.Compare a [op] [b] pos) (rdE J (dBin f da db)) :=
  PE.imp (pe_cmpR ho ha hb hm) fun _ _ _ h => rd_bin J2 hk h
theorem rd_tB {d : DE} (J2 : XJ X J) {σ : L2.St} {H : Hp} {Q : Bool → Hp → Prop} (h : rdB J (dTB d) σ H Q) : rdE J d σ H fun x H' => ∃ k, x = .bl k ∧ Q k H' := by
  refine rd_bind J2.st h fun ρ th env st v x H1 S rv g => ?_
  split at g
  · rename_i b
    have rv : x = .bl b := rv
    subst rv
    exact ⟨b, rfl, g H1 ρ b (.refl S.rs) rfl⟩
  · exact g.elim
theorem xt_cmp {op : CmpOp} {f : PV → PV → Sto → Res PV} {r : R2} (J2 : XJ X J) (ho : OpR X (compareOp op) r) (hk : OpOK J f r) (ha : PE X a (rdE J da)) (hb : PE X b (rdE J db)) (hm : behindInMarks op b = false) : PT X (.Compare a [op] [b] pos) (rdB J (dTB (dBin f da db))) :=
  PT.imp (pt_cmpR ho ha hb hm) fun _ _ _ h => rd_bin J2 hk (rd_tB J2 h)
theorem rd_chain {f g : PV → PV → Sto → Res PV} {r r' : R2} (J2 : XJ X J) (hk : OpOK J f r) (hk' : OpOK J g r') {σ : L2.St} {H : Hp} {Q : VK} (h : rdE J (dChain f g da db dc) σ H Q) : tChain r r' (rdE J da) (rdE J db) (rdE J dc) σ H Q := by
  refine rd_bind J2.st h fun ρ th env st v x H1 S rv g1 => ?_
  refine rd_of S (gR.bind g1 fun w st2 H2 ρ2 y _ s2 r2 g2 => ?_)
  refine hk _ H2 ρ2 st2 v w x y _ s2.rs (s2.rv rv) r2 (gR.bind g2 fun z st3 H3 ρ3 zv _ s3 r3 g3 => ?_)
  have S3 := (S.step J2.st s2).step J2.st s3
  split at g3
  · have r3 : zv = .bl true := r3
    refine ⟨true, r3, ?_⟩
    rw [if_pos rfl]
    refine rd_of S3 (gR.bind g3 fun u st4 H4 ρ4 uv _ s4 r4 g4 => ?_)
    exact hk' _ H4 ρ4 st4 w u y uv Q s4.rs (s4.rv (s3.rv r2)) r4 g4
  · have r3 : zv = .bl false := r3
    refine ⟨false, r3, ?_⟩
    rw [if_neg Bool.false_ne_true]
    exact g3 H3 ρ3 _ (.refl S3.rs) rfl
  · exact g3.elim
theorem xe_chain {op op' : CmpOp} {f g : PV → PV → Sto → Res PV} {r r' : R2} (J2 : XJ X J) (ho : OpR X (compareOp op) r) (ho' : OpR X (compareOp op') r') (hk : OpOK J f r) (hk' : OpOK J g r') (ha : PE X a (rdE J da)) (hb : PE X b (rdE J db)) (hc : PE X c (rdE J dc))
    (hm : lastMarks [op, op'] [b, c] = false) : PE X (.Compare a [op, op'] [b, c] pos) (rdE J (dChain f g da db dc)) :=
  PE.imp (pe_chain ho ho' ha hb hc hm) fun _ _ _ h => rd_chain J2 hk hk' h
theorem xt_chain {op op' : CmpOp} {f g : PV → PV → Sto → Res PV} {r r' : R2} (J2 : XJ X J) (ho : OpR X (compareOp op) r) (ho' : OpR X (compareOp op') r') (hk : OpOK J f r) (hk' : OpOK J g r') (ha : PE X a (rdE J da)) (hb : PE X b (rdE J db)) (hc : PE X c (rdE J dc))
    (hm : lastMarks [op, op'] [b, c] = false) : PT X (.Compare a [op, op'] [b, c] pos) (rdB J (dTB (dChain f g da db dc))) :=
  PT.imp (pt_chain ho ho' ha hb hc hm) fun _ _ _ h => rd_chain J2 hk hk' (rd_tB J2 h)
/-- a test by the truth of a value -/
theorem xt_val (J2 : XJ X J) (ha : PE X a (rdE J da)) (he : ∀ whole, isTrue a X.env whole = (do let v ← whole; standAt a.pos; holding [v] (truthy v)) := by intro _; rfl) : PT X a (rdB J (dTst da)) :=
  PT.imp (pt_truth ha he) fun _ _ _ h => rd_bind J2.st h fun ρ th env st v x H1 S rv g => by
    split at g
    · rename_i b e
      exact ⟨b, by rw [← J2.K]; exact tru_V S.rs rv e, g H1 ρ b (.refl S.rs) rfl⟩
    · exact g.elim
variable {ta tb : DB} {rest : List Expr}
theorem xt_not (J2 : XJ X J) (ha : PT X a (rdB J ta)) : PT X (.UnaryOp .Not a pos) (rdB J (dNotT ta)) :=
  PT.imp (pt_not ha) fun _ _ _ h => rd_bind J2.st h fun ρ th env st v x H1 S rv g => by
    have rv : x = v := rv
    subst rv
    exact g H1 ρ _ (.refl S.rs) rfl
theorem PW.imp {e : Expr} {t t' : TT} (h : PW X e t) (k : ∀ σ H Q, t' σ H Q → t σ H Q) : PW X e t' := ⟨fun wh pins s σ H Q I q => h.run wh pins s σ H Q I (k σ H Q q)⟩
theorem xw_and1 (ha : PT X a (rdB J ta)) : PW X (.BoolOp .And [a] pos) (rdB J ta) := pw_and1 ha
theorem xw_or1 (ha : PT X a (rdB J ta)) : PW X (.BoolOp .Or [a] pos) (rdB J ta) := pw_or1 ha
theorem xw_and (J2 : XJ X J) (ha : PT X a (rdB J ta)) (hb : PW X (.BoolOp .And (b :: rest) pos) (rdB J tb)) : PW X (.BoolOp .And (a :: b :: rest) pos) (rdB J (dAndT ta tb)) :=
  PW.imp (pw_and ha hb) fun _ _ _ h => rd_bind J2.st h fun ρ th env st v x H1 S rv g => by
    have rv : x = v := rv
    subst rv
    cases x with
    | true =>
      rw [if_pos rfl]
      exact rd_of S g
    | false =>
      rw [if_neg Bool.false_ne_true]
      exact g H1 ρ _ (.refl S.rs) rfl
theorem xw_or (J2 : XJ X J) (ha : PT X a (rdB J ta)) (hb : PW X (.BoolOp .Or (b :: rest) pos) (rdB J tb)) : PW X (.BoolOp .Or (a :: b :: rest) pos) (rdB J (dOrT ta tb)) :=
  PW.imp (pw_or ha hb) fun _ _ _ h => rd_bind J2.st h fun ρ th env st v x H1 S rv g => by
    have rv : x = v := rv
    subst rv
    cases x with
    | true =>
      rw [if_pos rfl]
      exact g H1 ρ _ (.refl S.rs) rfl
    | false =>
      rw [if_neg Bool.false_ne_true]
      exact rd_of S g
theorem xe_one {op} (h : PE X a (rdE J da)) : PE X (.BoolOp op [a] pos) (rdE J da) := pe_one h
theorem xe_and (J2 : XJ X J) (ha : PE X a (rdE J da)) (hb : PE X (.BoolOp .And (b :: rest) pos) (rdE J db)) : PE X (.BoolOp .And (a :: b :: rest) pos) (rdE J (dAnd da db)) :=
  PE.imp (pe_and ha hb) fun _ _ _ h => rd_bind J2.st h fun ρ th env st v x H1 S rv g => by
    split at g
    · refine ⟨true, rv, ?_⟩
      rw [if_pos rfl]
      exact rd_of S g
    · refine ⟨false, rv, ?_⟩
      rw [if_neg Bool.false_ne_true]
      exact g H1 ρ _ (.refl S.rs) rfl
    · exact g.elim
theorem xe_or (J2 : XJ X J) (ha : PE X a (rdE J da)) (hb : PE X (.BoolOp .Or (b :: rest) pos) (rdE J db)) : PE X (.BoolOp .Or (a :: b :: rest) pos) (rdE J (dOr da db)) :=
  PE.imp (pe_or ha hb) fun _ _ _ h => rd_bind J2.st h fun ρ th env st v x H1 S rv g => by
    split at g
    · refine ⟨true, rv, ?_⟩
      rw [if_pos rfl]
      exact g H1 ρ _ (.refl S.rs) rfl
    · refine ⟨false, rv, ?_⟩
      rw [if_neg Bool.false_ne_true]
      exact rd_of S g
    · exact g.elim
theorem xe_not (J2 : XJ X J) (ha : PE X a (rdE J da)) : PE X (.UnaryOp .Not a pos) (rdE J (dNot da)) :=
  PE.imp (pe_notT ha) fun _ _ _ h => rd_bind J2.st h fun ρ th env st v x H1 S rv g => by
    split at g
    · rename_i b e
      exact ⟨b, by rw [← J2.K]; exact tru_V S.rs rv e, g H1 ρ _ (.refl S.rs) rfl⟩
    · exact g.elim
theorem xe_if {tc : DB} (J2 : XJ X J) (hc : PT X c (rdB J tc)) (ha : PE X a (rdE J da)) (hb : PE X b (rdE J db)) : PE X (.IfExp c a b pos) (rdE J (dIf tc da db)) :=
  PE.imp (pe_ifExp hc ha hb) fun _ _ _ h => rd_bind J2.st h fun ρ th env st v x H1 S rv g => by
    have rv : x = v := rv
    subst rv
    cases x with
    | true =>
      rw [if_pos rfl]
      exact rd_of S g
    | false =>
      rw [if_neg Bool.false_ne_true]
      exact rd_of S g
/-! ### arguments, displays -/
variable {es : List Expr} {e : Expr} {de : DE} {dl : DL}
theorem xa_nil : PA X [] (rdL J dNil) := PA.imp pa_nil fun _ _ _ h => by
  obtain ⟨ρ, th, env, st, S, g⟩ := h
  exact g _ ρ [] (.refl S.rs) rfl
theorem xa_cons (J2 : XJ X J) (ha : PE X e (rdE J de)) (hr : PA X es (rdL J dl)) (hs : starEach (e :: es) X.env = (false, eval e X.env) :: starEach es X.env := by rfl) : PA X (e :: es) (rdL J (dCons de dl)) :=
  PA.imp (pa_cons ha hr hs) fun _ _ _ h => rd_bind J2.st h fun ρ th env st v x H1 S rv g =>
    rd_of S (gR.bind g fun ps st2 H2 ρ2 xs _ s2 r2 g2 => g2 H2 ρ2 _ (.refl s2.rs) ⟨x, xs, rfl, s2.rv rv, r2⟩)
theorem xe_tup {k} (J2 : XJ X J) (ha : PA X es (rdL J dl)) : PE X (.Tuple es k pos) (rdE J (dApp fTup dl)) :=
  PE.imp (pe_tup ha) fun _ _ _ h => rd_bind J2.st h fun ρ th env st ps xs H1 S rv g => by
    unfold fTup at g
    split at g
    · rename_i hz
      exact ⟨by rw [← rv.length]; exact szOk_le hz, fun p hp => g _ ρ _ (.newT S.rs hp) (rv_newT hp rv)⟩
    · exact g.elim
theorem xe_lst (J2 : XJ X J) (ha : PA X es (rdL J dl)) : PE X (.List es pos) (rdE J (dApp fLst dl)) :=
  PE.imp (pe_lst ha) fun _ _ _ h => rd_bind J2.st h fun ρ th env st ps xs H1 S rv g => by
    unfold fLst at g
    split at g
    · rename_i hz
      exact ⟨by rw [← rv.length]; exact szOk_le hz, fun p hp => g _ _ _ (.newL S.rs hp rv) ⟨by simp, by rw [put_same]⟩⟩
    · exact g.elim
/-! ### subscripts -/
theorem xe_ix (J2 : XJ X J) (ha : PE X a (rdE J da)) (hb : PE X b (rdE J db)) (hs : PlainIx b := by intro _ _; rfl) : PE X (.Subscript a b pos) (rdE J (dBin pIx da db)) :=
  PE.imp (pe_ix ix_seq ha hb hs) fun _ _ _ h => rd_bin J2 (by rw [← J2.K]; exact ok_ix) h
/-! ### calls by name -/
theorem rd_app {f : List PV → Sto → Res PV} {r : List V → Hp → VK → Prop} (J2 : XJ X J) (hk : CallOK J f r) {σ : L2.St} {H : Hp} {Q : VK} (h : rdE J (dApp f dl) σ H Q) : tCB r (rdL J dl) σ H Q :=
  rd_bind J2.st h fun ρ th env st v x H1 S rv g => hk _ H1 ρ st v x _ S.rs rv g
theorem xe_callB {x : Str} {id : String} {f : List PV → Sto → Res PV} {r : List V → Hp → VK → Prop} {p : Pos} (J2 : XJ X J) (hc : CallR X (.builtin id) r) (hk : CallOK J f r) (hg : Gl X x) (hm : X.mg x = none) (hv : bootBuiltins x = some (.builtin id)) (ha : PA X (e :: es) (rdL J dl)) (hn : x ≠ "__name__" := by decide)
    (hdb : (x == ("__debug__" : Str)) = false := by decide) (he : starEach (e :: es) X.env = (false, eval e X.env) :: starEach es X.env := by rfl) (hpl : (backTo pos (starEach es X.env)).any (·.1) = false := by rfl) : PE X (.Call (.Name x p) (e :: es) [] pos) (rdE J (dApp f dl)) :=
  PE.imp (pe_callB hc hg hm hv ha hn hdb he hpl) fun _ _ _ h => rd_app J2 hk h
theorem xe_callTy {x : Str} {T : String} {f : List PV → Sto → Res PV} {r : List V → Hp → VK → Prop} {p : Pos} (J2 : XJ X J) (hc : CallR X (.type T) r) (hk : CallOK J f r) (hg : Gl X x) (hm : X.mg x = none) (hv : bootBuiltins x = some (.type T)) (ha : PA X (e :: es) (rdL J dl)) (hn : x ≠ "__name__" := by decide)
    (hdb : (x == ("__debug__" : Str)) = false := by decide) (he : starEach (e :: es) X.env = (false, eval e X.env) :: starEach es X.env := by rfl) (hpl : (backTo pos (starEach es X.env)).any (·.1) = false := by rfl) : PE X (.Call (.Name x p) (e :: es) [] pos) (rdE J (dApp f dl)) :=
  PE.imp (pe_callTy hc hg hm hv ha hn hdb he hpl) fun _ _ _ h => rd_app J2 hk h
/-! ### methods of built-in types -/
def MetOK (J : Jx) (f : PV → List PV → Sto → Res PV) (r : V → List V → Hp → VK → Prop) : Prop := ∀ (E : XK) (H : Hp) (ρ : Nat → Addr) (st : Sto) (p : PV) (ps : List PV) (x : V) (xs : List V) (Q : VK), RSt J.W H ρ st → RV J.W H ρ st.length p x → RVs J.W H ρ st.length ps xs → gE J.W E (f p ps st) H ρ st.length Q → r x xs H Q
def TyOK (J : Jx) (T : String) (ty : PV → Sto → Bool) : Prop := ∀ (H : Hp) (ρ : Nat → Addr) (st : Sto) (p : PV) (x : V), RSt J.W H ρ st → RV J.W H ρ st.length p x → ty p st = true → tyV J.W.K T x H
theorem xe_met {o : Expr} {name : Str} {apos cpos : Pos} {T id : String} {r : V → List V → Hp → VK → Prop} {f : PV → List PV → Sto → Res PV} {ty : PV → Sto → Bool} {do_ : DE} (J2 : XJ X J) (pa : PlainAttrs T) (slot : Slot T name id) (hty : typeOf (.builtin id) = pure (.type "method_descriptor")) (hm : MtR X id r) (tk : TyOK J T ty) (hk : MetOK J f r)
    (ho : PE X o (rdE J do_)) (ha : PA X (e :: es) (rdL J dl))
    (hbase : attributeBase o name X.env (eval o X.env) = eval o X.env := by rfl)
    (hfew : ((backTo cpos (starEach (e :: es) X.env)).all (fun x => !x.1) && (backToKw cpos (keywordEach [] X.env)).all (fun x => x.1.isSome)
      && decide ((e :: es).length + ([] : List Keyword).length + (if ([] : List Keyword).isEmpty then 0 else 1) < 30)) = true := by rfl)
    (hline : (apos.endLine == cpos.line) = true := by rfl) (hs : starEach (e :: es) X.env = (false, eval e X.env) :: starEach es X.env := by rfl) (hplain : (backTo cpos (starEach es X.env)).any (·.1) = false := by rfl) :
    PE X (.Call (.Attribute o name apos) (e :: es) [] cpos) (rdE J (dMet ty f do_ dl)) :=
  PE.imp (pe_bm pa slot hty hm ho ha hbase hfew hline hs hplain) fun _ _ _ h => rd_bind J2.st h fun ρ th env st v x H1 S rv g => by
    split at g
    · rename_i et
      refine ⟨by rw [← J2.K]; exact tk H1 ρ st v x S.rs rv et, rd_of S (gR.bind g fun ps st2 H2 ρ2 xs _ s2 r2 g2 => ?_)⟩
      exact hk _ H2 ρ2 st2 v ps x xs _ s2.rs (s2.rv rv) r2 g2
    · exact g.elim
theorem xe_met0 {o : Expr} {name : Str} {apos cpos : Pos} {T id : String} {r : V → List V → Hp → VK → Prop} {f : PV → List PV → Sto → Res PV} {ty : PV → Sto → Bool} {do_ : DE} (J2 : XJ X J) (pa : PlainAttrs T) (slot : Slot T name id) (hty : typeOf (.builtin id) = pure (.type "method_descriptor")) (hm : MtR X id r) (tk : TyOK J T ty) (hk : MetOK J f r)
    (ho : PE X o (rdE J do_)) (hbase : attributeBase o name X.env (eval o X.env) = eval o X.env := by rfl) (hline : (apos.endLine == cpos.line) = true := by rfl) :
    PE X (.Call (.Attribute o name apos) [] [] cpos) (rdE J (dMet ty f do_ dNil)) :=
  PE.imp (pe_bm0 pa slot hty hm ho hbase hline) fun _ _ _ h => rd_bind J2.st h fun ρ th env st v x H1 S rv g => by
    split at g
    · rename_i et
      refine ⟨by rw [← J2.K]; exact tk H1 ρ st v x S.rs rv et, ?_⟩
      exact hk _ H1 ρ st v [] x [] _ S.rs rv rfl g
    · exact g.elim
/-! ### calls of defs -/
/-- a def as a function of its arguments and the store -/
abbrev Fn := List PV → Sto → Res PV
/-- the promise: what the function says -/
def spF (W : Wd) (F : Fn) : Sp := fun vs H Q E => ∃ ρ ps st, RSt W H ρ st ∧ RVs W H ρ st.length ps vs ∧ gE W E (F ps st) H ρ st.length Q
end
end Mi
end
section
set_option maxRecDepth 100000
set_option maxHeartbeats 4000000
namespace Mi
open PySem PySem.Spec PyProof.Rows L2
/-! ### targets -/
inductive Tg where
  | nm (i : Nat)
  | tp (ts : List Tg)
mutual
def Tg.set : Tg → PV → Env → Option Env
  | .nm i, p, env => some (env.set i (some p))
  | .tp ts, p, env => match p with
    | .tup xs => Tg.sets ts xs env
    | _ => none
def Tg.sets : List Tg → List PV → Env → Option Env
  | [], xs, env => match xs with
    | [] => some env
    | _ => none
  | t :: ts, xs, env => match xs with
    | x :: xs => match Tg.set t x env with
      | some env => Tg.sets ts xs env
      | none => none
    | [] => none
end
mutual
def Tg.rd (K : PySem.W.Frag) : Tg → TG
  | .nm i => gName i
  | .tp ts => gTup K ts.length (Tg.rds K ts)
def Tg.rds (K : PySem.W.Frag) : List Tg → TGs
  | [] => gNil
  | t :: ts => gCons (Tg.rd K t) (Tg.rds K ts)
end
mutual
def Tg.slots : Tg → List Nat
  | .nm i => [i]
  | .tp ts => Tg.slotss ts
def Tg.slotss : List Tg → List Nat
  | [] => []
  | t :: ts => Tg.slots t ++ Tg.slotss ts
end
/-- slots written, by V -/
inductive SetAt (vs : List Nat) : L2.St → L2.St → Prop
  | refl (σ : L2.St) : SetAt vs σ σ
  | set {σ σ' : L2.St} {i : Nat} {v : V} (hi : i ∈ vs) : SetAt vs σ σ' → SetAt vs σ (σ'.set i (some v))
theorem SetAt.trans {vs : List Nat} {a b c : L2.St} (h : SetAt vs a b) (k : SetAt vs b c) : SetAt vs a c := by
  induction k with
  | refl => exact h
  | set hi _ ih => exact .set hi ih
theorem SetAt.mono {vs us : List Nat} {a b : L2.St} (hs : ∀ i ∈ vs, i ∈ us) (h : SetAt vs a b) : SetAt us a b := by
  induction h with
  | refl => exact .refl _
  | set hi _ ih => exact .set (hs _ hi) ih
theorem wipe_get : ∀ (vs : List Nat) (σ : L2.St) (i : Nat), (L2.wipe σ vs)[i]? = if i ∈ vs then (if i < σ.length then some none else none) else σ[i]?
  | [], σ, i => by simp [L2.wipe]
  | v :: vs, σ, i => by
    show ((L2.wipe σ vs).set v none)[i]? = _
    by_cases h : v = i
    · subst h
      by_cases hl : v < σ.length
      · rw [List.getElem?_set_self (by rw [wipe_length]; exact hl), if_pos (List.mem_cons_self ..), if_pos hl]
      · rw [List.getElem?_eq_none (by rw [List.length_set, wipe_length]; exact Nat.le_of_not_lt hl), if_pos (List.mem_cons_self ..), if_neg hl]
    · rw [List.getElem?_set_ne h, wipe_get vs σ i]
      have : (i ∈ v :: vs) ↔ (i ∈ vs) := by
        rw [List.mem_cons]
        exact ⟨fun z => z.resolve_left fun q => h q.symm, .inr⟩
      simp only [this]
theorem SetAt.len {vs : List Nat} {a b : L2.St} (h : SetAt vs a b) : b.length = a.length := by
  induction h with
  | refl => rfl
  | set _ _ ih => rw [List.length_set, ih]
theorem SetAt.wipe {vs : List Nat} {a b : L2.St} (h : SetAt vs a b) : L2.wipe b vs = L2.wipe a vs := by
  refine List.ext_getElem? fun i => ?_
  rw [wipe_get, wipe_get, h.len]
  by_cases hi : i ∈ vs
  · rw [if_pos hi, if_pos hi]
  · rw [if_neg hi, if_neg hi]
    induction h with
    | refl => rfl
    | @set σ' j v hj _ ih =>
      have : j ≠ i := fun z => hi (z ▸ hj)
      rw [List.getElem?_set_ne this, ih]
section
variable {W : Wd} {H : Hp} {ρ : Nat → Addr} {n : Nat}
mutual
theorem Tg.ok : ∀ (t : Tg) (p : PV) (v : V) (env env' : Env) (σ : L2.St) (Q : L2.St → Hp → Prop), RV W H ρ n p v → REnv W H ρ n env σ → Tg.set t p env = some env' → (∀ σ', REnv W H ρ n env' σ' → SetAt (Tg.slots t) σ σ' → Q σ' H) → Tg.rd W.K t v σ H Q
  | .nm i, p, v, env, env', σ, Q, hv, he, e, k => by
    cases e
    exact k _ (he.set i hv) (.set (List.mem_singleton.mpr rfl) (.refl _))
  | .tp ts, p, v, env, env', σ, Q, hv, he, e, k => by
    cases p with
    | tup xs =>
      obtain ⟨a, vs, rfl, s, r⟩ := hv
      have h := Tg.oks ts xs vs env env' σ Q r he e k
      exact ⟨a, vs, rfl, s, h.1, h.2⟩
    | _ => cases e
theorem Tg.oks : ∀ (ts : List Tg) (ps : List PV) (vs : List V) (env env' : Env) (σ : L2.St) (Q : L2.St → Hp → Prop), RVs W H ρ n ps vs → REnv W H ρ n env σ → Tg.sets ts ps env = some env' → (∀ σ', REnv W H ρ n env' σ' → SetAt (Tg.slotss ts) σ σ' → Q σ' H) → vs.length = ts.length ∧ Tg.rds W.K ts vs σ H Q
  | [], ps, vs, env, env', σ, Q, hv, he, e, k => by
    cases ps with
    | nil =>
      cases e
      have hv : vs = [] := hv
      subst hv
      exact ⟨rfl, rfl, k σ he (.refl _)⟩
    | cons _ _ => cases e
  | t :: ts, ps, vs, env, env', σ, Q, hv, he, e, k => by
    cases ps with
    | nil => cases e
    | cons p ps =>
      obtain ⟨v, us, rfl, h1, h2⟩ := hv
      have e : (match Tg.set t p env with | some env => Tg.sets ts ps env | none => none) = some env' := e
      cases e1 : Tg.set t p env with
      | none =>
        rw [e1] at e
        cases e
      | some env1 =>
        rw [e1] at e
        have e : Tg.sets ts ps env1 = some env' := e
        have key : us.length = ts.length := by
          have : ∀ (ts : List Tg) (ps : List PV) (env : Env), Tg.sets ts ps env = some env' → ps.length = ts.length := by
            intro ts
            induction ts with
            | nil =>
              intro ps env e
              cases ps with
              | nil => rfl
              | cons _ _ => cases e
            | cons t ts ih =>
              intro ps env e
              cases ps with
              | nil => cases e
              | cons p ps =>
                have e : (match Tg.set t p env with | some env => Tg.sets ts ps env | none => none) = some env' := e
                cases e1 : Tg.set t p env with
                | none =>
                  rw [e1] at e
                  cases e
                | some env1 =>
                  rw [e1] at e
                  rw [List.length_cons, List.length_cons, ih ps env1 e]
          rw [← h2.length]
          exact this ts ps env1 e
        refine ⟨by rw [List.length_cons, List.length_cons, key], v, us, rfl, Tg.ok t p v env env1 σ _ h1 he e1 fun σ1 he1 s1 => ?_⟩
        exact (Tg.oks ts ps us env1 env' σ1 Q h2 he1 e fun σ2 he2 s2 => k σ2 he2 ((s1.mono fun i hi => List.mem_append_left _ hi).trans (s2.mono fun i hi => List.mem_append_right _ hi))).2
end
end
/-! ### statements -/
def dSeq (a b : DS) : DS := fun th env st => match a th env st with
  | .nx env st => b th env st
  | r => r
def dSkip : DS := fun _ env st => .nx env st
def dBrk : DS := fun _ env st => .bk env st
def dCnt : DS := fun _ env st => .ct env st
def dNever : DS := fun _ _ _ => .bad
def Res.s {α : Type} (env : Env) : Res α → (α → Sto → RS) → RS
  | .ok a st, f => f a st
  | .exc e st, _ => .exc e env st
  | .bad, _ => .bad
def dExp (a : DE) : DS := fun th env st => (a th env st).s env fun _ st => .nx env st
def dRet (a : DE) : DS := fun th env st => (a th env st).s env fun v st => .rt v st
def dRetN : DS := fun _ _ st => .rt .non st
def dIfS (c : DB) (a b : DS) : DS := fun th env st => (c th env st).s env fun x st => match x with
  | true => a th env st
  | false => b th env st
def dSet (t : Tg) (a : DE) : DS := fun th env st => (a th env st).s env fun v st => match t.set v env with
  | some env => .nx env st
  | none => .bad
def dPar (i j : Nat) (a b : DE) : DS := fun th env st => (a th env st).s env fun x st => (b th env st).s env fun y st => .nx ((env.set i (some x)).set j (some y)) st
/-- o[i] = e -/
def dSub (f : PV → PV → PV → Sto → Option Sto) (o i e : DE) : DS := fun th env st => (e th env st).s env fun v st => (o th env st).s env fun x st => (i th env st).s env fun y st => match f x y v st with
  | some st => .nx env st
  | none => .bad
/-- x op= e -/
def dAug (f : PV → PV → Sto → Res PV) (i : Nat) (e : DE) : DS := fun th env st => match env[i]? with
  | some (some x) => (e th env st).s env fun y st => (f x y st).s env fun z st => .nx (env.set i (some z)) st
  | _ => .bad
/-- what is walked: values; or what the store says at turn i (none: nothing is known; some none: the end) -/
inductive ItD where
  | vals (xs : List PV)
  | dyn (m : Nat) (g : Nat → Sto → Option (Option PV))
abbrev DI := Dn ItD
def forV (t : Tg) (body : DS) (th : Th) : List PV → Env → Sto → RS
  | [], env, st => .nx env st
  | x :: xs, env, st => match t.set x env with
    | some env => match body th env st with
      | .nx env st => forV t body th xs env st
      | .ct env st => forV t body th xs env st
      | .bk env st => .nx env st
      | r => r
    | none => .bad
def forL (t : Tg) (body : DS) (th : Th) (g : Nat → Sto → Option (Option PV)) : Nat → Nat → Env → Sto → RS
  | 0, _, _, _ => .bad
  | m + 1, i, env, st => match g i st with
    | some (some x) => match t.set x env with
      | some env => match body th env st with
        | .nx env st => forL t body th g m (i + 1) env st
        | .ct env st => forL t body th g m (i + 1) env st
        | .bk env st => .nx env st
        | r => r
      | none => .bad
    | some none => .nx env st
    | none => .bad
/-- a list of the store -/
def lstG (k : Nat) : Nat → Sto → Option (Option PV) := fun i st => match lstAt st k with
  | some xs => some xs[i]?
  | none => none
def lenAt (st : Sto) (k : Nat) : Nat := match lstAt st k with
  | some xs => xs.length
  | none => 0
def dFor (it : DI) (t : Tg) (body : DS) : DS := fun th env st => (it th env st).s env fun d st => match d with
  | .vals xs => forV t body th xs env st
  | .dyn m g => forL t body th g m 0 env st
def dWhile (c : DB) (body : DS) : Nat → DS
  | 0 => dNever
  | m + 1 => fun th env st => (c th env st).s env fun b st => match b with
    | true => match body th env st with
      | .nx env st => dWhile c body m th env st
      | .ct env st => dWhile c body m th env st
      | .bk env st => .nx env st
      | r => r
    | false => .nx env st
/-! ### readings of statements -/
section
variable {J : Jx}
theorem gS.bind {W : Wd} {H : Hp} {ρ : Nat → Addr} {n : Nat} {α β : Type} {R : Hp → (Nat → Addr) → Nat → α → β → Prop} {Wx : WX} {env : Env} {σ : L2.St} {r : Res α} {f : α → Sto → RS} {D : Ends} {Q2 : β → Hp → Prop} (he : REnv W H ρ n env σ)
    (h : gS W Wx (r.s env f) H ρ n D) (k : ∀ v st1 H1 ρ1 x, r = .ok v st1 → Stp W H ρ n H1 ρ1 st1 → R H1 ρ1 st1.length v x → gS W Wx (f v st1) H1 ρ1 st1.length D → Q2 x H1) : gR W R (fun c dd H' => Wx c dd σ H') r H ρ n Q2 := by
  cases r with
  | ok v st1 => exact fun H1 ρ1 x s1 q => k v st1 H1 ρ1 x rfl s1 q (gS.pre s1 h)
  | exc e st1 => exact fun H1 ρ1 c d s1 q => h H1 ρ1 σ c d s1 (s1.renv he) q
  | bad => exact h
theorem rs_bind {α β : Type} {R : Hp → (Nat → Addr) → Nat → α → β → Prop} {da : Dn α} {f : α → Th → Env → Sto → RS} {σ : L2.St} {H : Hp} {D : Ends} {Q2 : β → Hp → Prop} (hs : J.tr.Stays J.W)
    (h : rdS J (fun th env st => (da th env st).s env fun v st1 => f v th env st1) D σ H)
    (k : ∀ ρ th env st v x H1, Sit J ρ th env st σ H1 → R H1 ρ st.length v x → gS J.W J.Wx (f v th env st) H1 ρ st.length D → Q2 x H1) : rdR J R da σ H Q2 := by
  obtain ⟨ρ, th, env, st, S, g⟩ := h
  exact ⟨ρ, th, env, st, S, gS.bind S.env g fun v st1 H1 ρ1 x _ s1 r g1 => k ρ1 th env st1 v x H1 (S.step hs s1) r g1⟩
theorem rs_of {d : DS} {ρ : Nat → Addr} {th : Th} {env : Env} {st : Sto} {σ : L2.St} {H : Hp} {D : Ends} (S : Sit J ρ th env st σ H) (g : gS J.W J.Wx (d th env st) H ρ st.length D) : rdS J d D σ H := ⟨ρ, th, env, st, S, g⟩
theorem Sit.to {ρ ρ' : Nat → Addr} {th : Th} {env env' : Env} {st st' : Sto} {σ σ' : L2.St} {H H' : Hp} (hs : J.tr.Stays J.W) (S : Sit J ρ th env st σ H) (s : Stp J.W H ρ st.length H' ρ' st') (e : REnv J.W H' ρ' st'.length env' σ') : Sit J ρ' th env' st' σ' H' :=
  ⟨s.rs, e, hs _ _ _ _ _ _ _ s S.th⟩
end
section
variable {X : Cx} {J : Jx} {a b e o : Expr} {da db de do_ di : DE} {pos : Pos} {s : Stmt} {ss : List Stmt} {ds dt : DS}
theorem ys_nil : PSs X [] (rdS J dSkip) := PSs.imp pss_nil fun D σ H h => by
  obtain ⟨ρ, th, env, st, S, g⟩ := h
  exact g H ρ σ (.refl S.rs) S.env
theorem ys_cons (J2 : XJ X J) (h1 : PS X s (rdS J ds)) (h2 : PSs X ss (rdS J dt)) : PSs X (s :: ss) (rdS J (dSeq ds dt)) := PSs.imp (pss_cons h1 h2) fun D σ H h => by
  obtain ⟨ρ, th, env, st, S, g⟩ := h
  refine rs_of S ?_
  unfold dSeq at g
  cases e : ds th env st with
  | nx env1 st1 =>
    rw [e] at g
    exact fun H1 ρ1 σ1 s1 he => rs_of (S.to J2.st s1 he) (gS.pre s1 g)
  | rt v st1 =>
    rw [e] at g
    exact g
  | bk env1 st1 =>
    rw [e] at g
    exact g
  | ct env1 st1 =>
    rw [e] at g
    exact g
  | exc x env1 st1 =>
    rw [e] at g
    exact g
  | bad =>
    rw [e] at g
    exact g
theorem ys_one (h1 : PS X s (rdS J ds)) : PSs X [s] (rdS J ds) := pss_one h1
theorem ys_pass : PS X (.Pass pos) (rdS J dSkip) := PS.imp ps_pass fun D σ H h => by
  obtain ⟨ρ, th, env, st, S, g⟩ := h
  exact g H ρ σ (.refl S.rs) S.env
theorem ys_break : PS X (.Break pos) (rdS J dBrk) := PS.imp ps_break fun D σ H h => by
  obtain ⟨ρ, th, env, st, S, g⟩ := h
  exact g H ρ σ (.refl S.rs) S.env
theorem ys_cont : PS X (.Continue pos) (rdS J dCnt) := PS.imp ps_continue fun D σ H h => by
  obtain ⟨ρ, th, env, st, S, g⟩ := h
  exact g H ρ σ (.refl S.rs) S.env
theorem ys_never : PS X s (rdS J dNever) := PS.imp ps_never fun D σ H h => by
  obtain ⟨ρ, th, env, st, S, g⟩ := h
  exact g
theorem ys_expr (J2 : XJ X J) (he : PE X e (rdE J de)) (hs : swapsWith e none pos.line X.env = pure false := by rfl) : PS X (.Expr e pos) (rdS J (dExp de)) := PS.imp (ps_expr he hs) fun D σ H h =>
  rs_bind J2.st h fun ρ th env st v x H1 S r g => g H1 ρ σ (.refl S.rs) S.env
theorem ys_ret (J2 : XJ X J) (he : PE X e (rdE J de)) : PS X (.Return (some e) pos) (rdS J (dRet de)) := PS.imp (ps_ret he) fun D σ H h =>
  rs_bind J2.st h fun ρ th env st v x H1 S r g => g H1 ρ x (.refl S.rs) r
theorem ys_retN : PS X (.Return none pos) (rdS J dRetN) := PS.imp ps_retN fun D σ H h => by
  obtain ⟨ρ, th, env, st, S, g⟩ := h
  exact g H ρ .non (.refl S.rs) rfl
theorem ys_if {c : Expr} {sa sb : List Stmt} {dc : DB} (J2 : XJ X J) (hc : PT X c (rdB J dc)) (ha : PSs X sa (rdS J ds)) (hb : PSs X sb (rdS J dt)) : PS X (.If c sa sb pos) (rdS J (dIfS dc ds dt)) := PS.imp (ps_if hc ha hb) fun D σ H h =>
  rs_bind J2.st h fun ρ th env st v x H1 S r g => by
    have r : x = v := r
    subst r
    cases x with
    | true =>
      rw [if_pos rfl]
      exact rs_of S g
    | false =>
      rw [if_neg Bool.false_ne_true]
      exact rs_of S g
theorem rs_set {t : Tg} (J2 : XJ X J) {D : Ends} {σ : L2.St} {H : Hp} (h : rdS J (dSet t de) D σ H) : tAsg (rdE J de) (Tg.rd X.K t) D σ H :=
  rs_bind J2.st h fun ρ th env st v x H1 S r g => by
    split at g
    · rename_i env' e
      rw [← J2.K]
      exact Tg.ok t v x env env' σ _ r S.env e fun σ' he _ => g H1 ρ σ' (.refl S.rs) he
    · exact g.elim
/-- x = e -/
theorem ys_set {i : Nat} {x : Str} {pos' : Pos} (J2 : XJ X J) (hN : X.N.Nodup) (hi : X.N[i]? = some x) (hx : Loc X.env.scope x) (he : PE X e (rdE J de)) (hs : swapsWith e (some (.Name x pos')) pos.line X.env = pure false := by rfl) (hf : X.fn x = true ∨ X.env.scope.names.lookup x = some .local := by first | exact .inl rfl | exact .inr rfl | assumption) :
    PS X (.Assign [.Name x pos'] e pos) (rdS J (dSet (.nm i) de)) := PS.imp (ps_set hN hi hx he hs hf) fun D σ H h => rs_set J2 h
/-- the i-th name is a target -/
theorem yg_nm {i : Nat} {x : Str} (hN : X.N.Nodup) (hi : X.N[i]? = some x) (hx : Loc X.env.scope x) (hf : X.fn x = true ∨ X.env.scope.names.lookup x = some .local := by first | exact .inl rfl | exact .inr rfl | assumption) : PG X (.Name x pos) (Tg.rd X.K (.nm i)) := pg_name hN hi hx hf
theorem ygs_nil : PGs X [] (Tg.rds X.K []) := pgs_nil
theorem ygs_cons {es : List Expr} {t : Tg} {ts : List Tg} (h1 : PG X e (Tg.rd X.K t)) (h2 : PGs X es (Tg.rds X.K ts)) (hs : (assignEach (e :: es) X.env).map (·.2) = assign e X.env :: (assignEach es X.env).map (·.2) := by rfl) : PGs X (e :: es) (Tg.rds X.K (t :: ts)) := pgs_cons h1 h2 hs
theorem yg_tp {es : List Expr} {ts : List Tg} {k : Nat} (hc : X.calm = true) (h : PGs X es (Tg.rds X.K ts)) (hn : (assignEach es X.env).length = ts.length := by rfl) (hst : (assignEach es X.env).findIdx? (·.1) = none := by rfl) : PG X (.Tuple es k pos) (Tg.rd X.K (.tp ts)) := pg_tup hc h hn hst
/-- a, b = e -/
theorem ys_unp {tg : Expr} {t : Tg} (J2 : XJ X J) (he : PE X e (rdE J de)) (hg : PG X tg (Tg.rd X.K t)) (hs : swapsWithSole [tg] e pos.line X.env = pure false := by rfl) (hw : swappedStores [tg] e X.env = pure none := by rfl) (h1 : (assignEach [tg] X.env).map (·.2) = [assign tg X.env] := by rfl) :
    PS X (.Assign [tg] e pos) (rdS J (dSet t de)) := PS.imp (ps_asg he hg hs hw h1) fun D σ H h => rs_set J2 h
/-- a, b = x, y -/
theorem ys_par {i j : Nat} {x y : Str} {px py pt : Pos} {kt k2 pt2} (J2 : XJ X J) (hc : X.calm = true) (hN : X.N.Nodup) (hi : X.N[i]? = some x) (hj : X.N[j]? = some y) (hij : i ≠ j) (hx : X.env.scope.names.lookup x = some .local) (hy : X.env.scope.names.lookup y = some .local)
    (ha : PE X a (rdE J da)) (hb : PE X b (rdE J db)) (hw : swappedStores [.Tuple [.Name x px, .Name y py] kt pt] (.Tuple [a, b] k2 pt2) X.env = pure (some [x, y])) (h1 : starEach [a, b] X.env = (false, eval a X.env) :: starEach [b] X.env := by rfl) (h2 : starEach [b] X.env = (false, eval b X.env) :: starEach [] X.env := by rfl)
    (hs : swapsWithSole [.Tuple [.Name x px, .Name y py] kt pt] (.Tuple [a, b] k2 pt2) pos.line X.env = pure false := by rfl) : PS X (.Assign [.Tuple [.Name x px, .Name y py] kt pt] (.Tuple [a, b] k2 pt2) pos) (rdS J (dPar i j da db)) :=
  PS.imp (ps_par (ta := tCons (rdE J da) (tCons (rdE J db) tNil)) hc hN hi hj hij hx hy (pa_cons ha (pa_cons hb pa_nil h2) h1) hw hs) fun D σ H h =>
    rs_bind J2.st h fun ρ th env st v x H1 S r g => rd_of S (gS.bind S.env g fun w st2 H2 ρ2 y _ s2 r2 g2 => ⟨x, y, rfl, g2 H2 ρ2 _ (.refl s2.rs) (((s2.renv S.env).set i (s2.rv r)).set j r2)⟩)
/-! ### stores -/
def SetOK (J : Jx) (f : PV → PV → PV → Sto → Option Sto) (r : TSet) : Prop := ∀ (H : Hp) (ρ : Nat → Addr) (st st' : Sto) (o i v : PV) (x y z : V) (Q : Hp → Prop), RSt J.W H ρ st → RV J.W H ρ st.length o x → RV J.W H ρ st.length i y → RV J.W H ρ st.length v z → f o i v st = some st' → (∀ H', Stp J.W H ρ st.length H' ρ st' → Q H') → r x y z H Q
def pSetL (o i v : PV) (st : Sto) : Option Sto := match o, i with
  | .ref k, .int j => match st[k]? with
    | some (.lst xs) => match ixN xs.length j with
      | some m => some (st.set k (.lst (xs.set m v)))
      | none => none
    | _ => none
  | _, _ => none
theorem ok_setL : SetOK J pSetL rSetL := by
  intro H ρ st st' o i v x y z Q r ho hi hv e q
  unfold pSetL at e
  split at e
  · split at e
    · rename_i xs e1
      split at e
      · rename_i m em
        cases e
        obtain ⟨_, rfl⟩ := ho
        simp only [RV] at hi
        subst hi
        obtain ⟨vs, h1, h2⟩ := r.lst e1
        exact ⟨_, vs, _, m, rfl, rfl, h1, by rw [← h2.length]; exact em, q _ (.setL r e1 rfl (h2.set hv m))⟩
      · cases e
    · cases e
  · cases e
theorem RVs.set' {W : Wd} {H : Hp} {ρ : Nat → Addr} {n : Nat} {ps : List PV} {vs : List V} {p : PV} {v : V} (h : RVs W H ρ n ps vs) (hp : RV W H ρ n p v) (i : Nat) : RVs W H ρ n (ps.set i p) (vs.set i v) := RVs.set hp i h
theorem ys_sub {i : Expr} {f : PV → PV → PV → Sto → Option Sto} {r : TSet} {p2 : Pos} (J2 : XJ X J) (hp : PSet X r) (hk : SetOK J f r) (ho : PE X o (rdE J do_)) (hi : PE X i (rdE J di)) (he : PE X e (rdE J de))
    (ha : ∀ v, assign (.Subscript o i p2) X.env v = (do
      let ov ← holding [v] (eval o X.env)
      let iv ← holding [v, ov] (eval i X.env)
      standAt p2
      holding [v, ov, iv] (setItem ov iv v)
      release [v, ov, iv] []) := by intro _; rfl)
    (hs : swapsWithSole [.Subscript o i p2] e pos.line X.env = pure false := by rfl) (hw : swappedStores [.Subscript o i p2] e X.env = pure none := by rfl) (h1 : (assignEach [.Subscript o i p2] X.env).map (·.2) = [assign (.Subscript o i p2) X.env] := by rfl) :
    PS X (.Assign [.Subscript o i p2] e pos) (rdS J (dSub f do_ di de)) := PS.imp (ps_asg he (pg_sub ho hi hp ha) hs hw h1) fun D σ H h =>
  rs_bind J2.st h fun ρ th env st v x H1 S r g => rd_of S (gS.bind S.env g fun w st2 H2 ρ2 y _ s2 r2 g2 => rd_of (S.step J2.st s2) (gS.bind (s2.renv S.env) g2 fun u st3 H3 ρ3 z _ s3 r3 g3 => by
    split at g3
    · rename_i st' e
      exact hk H3 ρ3 st3 st' w u v y z x _ s3.rs (s3.rv r2) r3 (s3.rv (s2.rv r)) e fun H' s' => g3 H' ρ3 σ s' ((s3.trans s').renv (s2.renv S.env))
    · exact g3.elim))
/-- x op= e -/
theorem ys_aug {i : Nat} {x : Str} {op : Operator} {f : PV → PV → Sto → Res PV} {r : R2} {pos' : Pos} (J2 : XJ X J) (hN : X.N.Nodup) (hi : X.N[i]? = some x) (hx : Loc X.env.scope x) (he : PE X e (rdE J de)) (ho : OpR X (inplaceOp op) r) (hk : OpOK J f r) (hf : X.fn x = true ∨ X.env.scope.names.lookup x = some .local := by first | exact .inl rfl | exact .inr rfl | assumption) :
    PS X (.AugAssign (.Name x pos') op e pos) (rdS J (dAug f i de)) := PS.imp (ps_aug (ti := r) hN hi hx he ho hf) fun D σ H h => by
  obtain ⟨ρ, th, env, st, S, g⟩ := h
  unfold dAug at g
  split at g
  · rename_i p e
    obtain ⟨v, h1, h2⟩ := S.env.get i p e
    refine ⟨v, h1, rd_of S (gS.bind S.env g fun w st2 H2 ρ2 y _ s2 r2 g2 => ?_)⟩
    exact hk (fun c dd H' => J.Wx c dd σ H') H2 ρ2 st2 p w v y _ s2.rs (s2.rv h2) r2 (gS.bind (s2.renv S.env) g2 fun u st3 H3 ρ3 z _ s3 r3 g3 => g3 H3 ρ3 _ (.refl s3.rs) ((s3.renv (s2.renv S.env)).set i r3))
  · exact g.elim
end
end Mi
end
section
set_option maxRecDepth 100000
set_option maxHeartbeats 4000000
namespace Mi
open PySem PySem.Spec PyProof.Rows L2
/-! ### what is walked -/
/-- J walks d -/
def ItOK (W : Wd) (H0 : Hp) (ρ0 : Nat → Addr) (n0 : Nat) : ItD → It → Prop
  | .vals xs, J => ∀ (i : Nat) (H : Hp) (ρ : Nat → Addr) (st : Sto), Stp W H0 ρ0 n0 H ρ st →
      (∀ p, xs[i]? = some p → J.go i H ∧ ∀ x H', J.yld i H x H' → Stp W H ρ st.length H' ρ st ∧ RV W H' ρ st.length p x) ∧ (i = xs.length → J.stop i H)
  | .dyn _ g, J => ∀ (i : Nat) (H : Hp) (ρ : Nat → Addr) (st : Sto), Stp W H0 ρ0 n0 H ρ st → match g i st with
      | some (some p) => J.go i H ∧ ∀ x H', J.yld i H x H' → Stp W H ρ st.length H' ρ st ∧ RV W H' ρ st.length p x
      | some none => J.stop i H
      | none => True
abbrev rdI (J : Jx) (d : DI) : TI := rdR J (fun H ρ n p x => ItOK J.W H ρ n p x) d
/-- the walk of a def's context: how exceptions go, no handled one -/
structure XK2 (X : Cx) (J : Jx) : Prop extends XJ X J where
  cm : X.calm = true
  nd : X.N.Nodup
  po : PassesOwn (model X.prog X.w) X.A X.env X.xe
  gd : X.A.guards = some []
section
variable {X : Cx} {J : Jx} {tg iter : Expr} {body : List Stmt} {di : DI} {t : Tg} {db : DS} {pos : Pos}
theorem drop_get {α : Type} {xs : List α} {i : Nat} {x : α} {r : List α} (h : xs.drop i = x :: r) : xs[i]? = some x ∧ xs.drop (i + 1) = r := by
  constructor
  · have := congrArg (fun l : List α => l[0]?) h
    simpa using this
  · have := congrArg (fun l : List α => l.drop 1) h
    simpa [List.drop_drop] using this
theorem drop_nil {α : Type} {xs : List α} {i : Nat} (h : xs.drop i = []) (hi : i ≤ xs.length) : i = xs.length := by
  have := List.drop_eq_nil_iff.mp h
  omega
theorem rs_forV (J2 : XJ X J) {xs : List PV} {It0 : It} {ρ0 : Nat → Addr} {th : Th} {env0 : Env} {st0 : Sto} {σ0 : L2.St} {H0 : Hp} {D : Ends} (S0 : Sit J ρ0 th env0 st0 σ0 H0) (hI : ItOK J.W H0 ρ0 st0.length (.vals xs) It0) (g0 : gS J.W J.Wx (forV t db th xs env0 st0) H0 ρ0 st0.length D) :
    ∃ W : Nat → Nat → L2.St → Hp → Prop, (∃ m, W 0 m σ0 H0) ∧ ∀ i m σ H, W i m σ H →
      (It0.stop i H ∧ D.nx σ H) ∨ (It0.go i H ∧ ∃ N : L2.St → Hp → Prop, (∀ σ' H', N σ' H' → ∃ m', m' < m ∧ W (i + 1) m' σ' H') ∧ ∀ x H', It0.yld i H x H' → Tg.rd X.K t x σ H' fun σ2 H2 => rdS J db { D with nx := N, ct := N, bk := D.nx } σ2 H2) := by
  refine ⟨fun i m σ H => ∃ ρ env st r, Sit J ρ th env st σ H ∧ Stp J.W H0 ρ0 st0.length H ρ st ∧ i ≤ xs.length ∧ xs.drop i = r ∧ m = r.length ∧ gS J.W J.Wx (forV t db th r env st) H ρ st.length D,
    ⟨xs.length, ρ0, env0, st0, xs, S0, .refl S0.rs, Nat.zero_le _, rfl, rfl, g0⟩, ?_⟩
  rintro i m σ H ⟨ρ, env, st, r, S, s, hi, hr, hm, g⟩
  obtain ⟨h1, h2⟩ := hI i H ρ st s
  cases r with
  | nil => exact .inl ⟨h2 (drop_nil hr hi), g H ρ σ (.refl S.rs) S.env⟩
  | cons p r =>
    obtain ⟨e1, e2⟩ := drop_get hr
    have hlt : i < xs.length := (List.getElem?_eq_some_iff.mp e1).1
    obtain ⟨h3, h4⟩ := h1 p e1
    refine .inr ⟨h3, fun σ' H' => ∃ ρ env st, Sit J ρ th env st σ' H' ∧ Stp J.W H0 ρ0 st0.length H' ρ st ∧ gS J.W J.Wx (forV t db th r env st) H' ρ st.length D, fun σ' H' ⟨ρ', env', st', S', s', g'⟩ => ?_, fun x H' y => ?_⟩
    · exact ⟨r.length, by rw [hm]; exact Nat.lt_succ_self _, ρ', env', st', r, S', s', hlt, e2, rfl, g'⟩
    · obtain ⟨s1, rv⟩ := h4 x H' y
      have g : gS J.W J.Wx (match t.set p env with
        | some env => match db th env st with
          | .nx env st => forV t db th r env st
          | .ct env st => forV t db th r env st
          | .bk env st => .nx env st
          | r => r
        | none => .bad) H ρ st.length D := g
      split at g
      · rename_i env1 e
        rw [← J2.K]
        refine Tg.ok t p x env env1 σ _ rv (s1.renv S.env) e fun σ1 he1 _ => ?_
        have S1 : Sit J ρ th env1 st σ1 H' := S.to J2.st s1 he1
        have sT := s.trans s1
        refine rs_of S1 (gS.pre s1 ?_)
        cases eb : db th env1 st with
        | nx e2 st2 =>
          rw [eb] at g
          exact fun H2 ρ2 σ2 s2 he => ⟨ρ2, e2, st2, S.to J2.st s2 he, s.trans s2, gS.pre s2 g⟩
        | ct e2 st2 =>
          rw [eb] at g
          exact fun H2 ρ2 σ2 s2 he => ⟨ρ2, e2, st2, S.to J2.st s2 he, s.trans s2, gS.pre s2 g⟩
        | bk e2 st2 =>
          rw [eb] at g
          exact g
        | rt v st2 =>
          rw [eb] at g
          exact g
        | exc x e2 st2 =>
          rw [eb] at g
          exact g
        | bad =>
          rw [eb] at g
          exact g
      · exact g.elim
theorem rs_forL (J2 : XJ X J) {gg : Nat → Sto → Option (Option PV)} {It0 : It} {ρ0 : Nat → Addr} {th : Th} {env0 : Env} {st0 : Sto} {σ0 : L2.St} {H0 : Hp} {D : Ends} {m0 : Nat} (S0 : Sit J ρ0 th env0 st0 σ0 H0) (hI : ItOK J.W H0 ρ0 st0.length (.dyn m0 gg) It0) (g0 : gS J.W J.Wx (forL t db th gg m0 0 env0 st0) H0 ρ0 st0.length D) :
    ∃ W : Nat → Nat → L2.St → Hp → Prop, (∃ m, W 0 m σ0 H0) ∧ ∀ i m σ H, W i m σ H →
      (It0.stop i H ∧ D.nx σ H) ∨ (It0.go i H ∧ ∃ N : L2.St → Hp → Prop, (∀ σ' H', N σ' H' → ∃ m', m' < m ∧ W (i + 1) m' σ' H') ∧ ∀ x H', It0.yld i H x H' → Tg.rd X.K t x σ H' fun σ2 H2 => rdS J db { D with nx := N, ct := N, bk := D.nx } σ2 H2) := by
  refine ⟨fun i m σ H => ∃ ρ env st, Sit J ρ th env st σ H ∧ Stp J.W H0 ρ0 st0.length H ρ st ∧ gS J.W J.Wx (forL t db th gg m i env st) H ρ st.length D,
    ⟨m0, ρ0, env0, st0, S0, .refl S0.rs, g0⟩, ?_⟩
  rintro i m σ H ⟨ρ, env, st, S, s, g⟩
  have hi := hI i H ρ st s
  cases m with
  | zero => exact g.elim
  | succ m =>
    have g : gS J.W J.Wx (match gg i st with
      | some (some x) => match t.set x env with
        | some env => match db th env st with
          | .nx env st => forL t db th gg m (i + 1) env st
          | .ct env st => forL t db th gg m (i + 1) env st
          | .bk env st => .nx env st
          | r => r
        | none => .bad
      | some none => .nx env st
      | none => .bad) H ρ st.length D := g
    cases el : gg i st with
    | none =>
      rw [el] at g
      exact g.elim
    | some ex =>
      rw [el] at g hi
      cases ex with
      | none =>
        exact .inl ⟨hi, g H ρ σ (.refl S.rs) S.env⟩
      | some p =>
        obtain ⟨h3, h4⟩ := hi
        dsimp only at g
        refine .inr ⟨h3, fun σ' H' => ∃ ρ env st, Sit J ρ th env st σ' H' ∧ Stp J.W H0 ρ0 st0.length H' ρ st ∧ gS J.W J.Wx (forL t db th gg m (i + 1) env st) H' ρ st.length D, fun σ' H' h => ⟨m, Nat.lt_succ_self _, h⟩, fun x H' y => ?_⟩
        obtain ⟨s1, rv⟩ := h4 x H' y
        cases ee : t.set p env with
        | none =>
          rw [ee] at g
          exact g.elim
        | some env1 =>
          rw [ee] at g
          dsimp only at g
          rw [← J2.K]
          refine Tg.ok t p x env env1 σ _ rv (s1.renv S.env) ee fun σ1 he1 _ => ?_
          have S1 : Sit J ρ th env1 st σ1 H' := S.to J2.st s1 he1
          have sT := s.trans s1
          refine rs_of S1 (gS.pre s1 ?_)
          cases eb : db th env1 st with
          | nx e2 st2 =>
            rw [eb] at g
            exact fun H2 ρ2 σ2 s2 he => ⟨ρ2, e2, st2, S.to J2.st s2 he, s.trans s2, gS.pre s2 g⟩
          | ct e2 st2 =>
            rw [eb] at g
            exact fun H2 ρ2 σ2 s2 he => ⟨ρ2, e2, st2, S.to J2.st s2 he, s.trans s2, gS.pre s2 g⟩
          | bk e2 st2 =>
            rw [eb] at g
            exact g
          | rt v st2 =>
            rw [eb] at g
            exact g
          | exc x e2 st2 =>
            rw [eb] at g
            exact g
          | bad =>
            rw [eb] at g
            exact g
theorem ys_for (J2 : XK2 X J) (hi : PI X tg iter (rdI J di)) (hg : PG X tg (Tg.rd X.K t)) (hb : PSs X body (rdS J db)) (hs : ∀ x, foldedSetIterable iter X.env x = pure x := by intro _; rfl) : PS X (.For tg iter body [] pos) (rdS J (dFor di t db)) :=
  PS.imp (ps_for J2.po J2.cm hi hg hb hs) fun D σ H h => rs_bind J2.st h fun ρ th env st v x H1 S r g => by
    split at g
    · exact rs_forV J2.toXJ S r g
    · exact rs_forL J2.toXJ S r g
theorem ys_while {c : Expr} {dc : DB} (fuel : Nat) (J2 : XK2 X J) (hc : PT X c (rdB J dc)) (hb : PSs X body (rdS J db)) : PS X (.While c body [] pos) (rdS J (dWhile dc db fuel)) :=
  PS.imp (ps_while J2.po hc hb) fun D σ H h => by
    refine ⟨fun m σ H => rdS J (dWhile dc db m) D σ H, ⟨fuel, h⟩, fun m σ H h => ?_⟩
    cases m with
    | zero =>
      obtain ⟨ρ, th, env, st, S, g⟩ := h
      exact g.elim
    | succ m =>
      refine rs_bind J2.st h fun ρ th env st v x H1 S r g => ?_
      have r : x = v := r
      subst r
      cases x with
      | false =>
        rw [if_neg Bool.false_ne_true]
        exact g H1 ρ σ (.refl S.rs) S.env
      | true =>
        rw [if_pos rfl]
        refine ⟨fun σ' H' => rdS J (dWhile dc db m) D σ' H', fun σ' H' h => ⟨m, Nat.lt_succ_self _, h⟩, rs_of S ?_⟩
        have g : gS J.W J.Wx (match db th env st with
          | .nx env st => dWhile dc db m th env st
          | .ct env st => dWhile dc db m th env st
          | .bk env st => .nx env st
          | r => r) H1 ρ st.length D := g
        cases eb : db th env st with
        | nx e2 st2 =>
          rw [eb] at g
          exact fun H2 ρ2 σ2 s2 he => rs_of (S.to J2.st s2 he) (gS.pre s2 g)
        | ct e2 st2 =>
          rw [eb] at g
          exact fun H2 ρ2 σ2 s2 he => rs_of (S.to J2.st s2 he) (gS.pre s2 g)
        | bk e2 st2 =>
          rw [eb] at g
          exact g
        | rt v st2 =>
          rw [eb] at g
          exact g
        | exc x e2 st2 =>
          rw [eb] at g
          exact g
        | bad =>
          rw [eb] at g
          exact g
end
/-! ### list comprehensions -/
def lcV (t : Tg) (ts : DB) (el : DE) (own : List Nat) (th : Th) (D : Nat) : List PV → Env → Sto → Res Unit
  | [], _, st => .ok () st
  | x :: xs, env, st => match t.set x env with
    | some env1 => (ts th env1 st).bind fun b st => match b with
      | true => (el th env1 st).bind fun y st => match st[D]? with
        | some (.lst acc) => if Nat.blt acc.length 16777216 = true then lcV t ts el own th D xs env (st.set D (.lst (acc ++ [y]))) else .bad
        | _ => .bad
      | false => lcV t ts el own th D xs env st
    | none => .bad
def lcL (t : Tg) (ts : DB) (el : DE) (own : List Nat) (th : Th) (D : Nat) (g : Nat → Sto → Option (Option PV)) : Nat → Nat → Env → Sto → Res Unit
  | 0, _, _, _ => .bad
  | m + 1, i, env, st => match g i st with
    | some (some x) => match t.set x env with
      | some env1 => (ts th env1 st).bind fun b st => match b with
        | true => (el th env1 st).bind fun y st => match st[D]? with
          | some (.lst acc) => if Nat.blt acc.length 16777216 = true then lcL t ts el own th D g m (i + 1) env (st.set D (.lst (acc ++ [y]))) else .bad
          | _ => .bad
        | false => lcL t ts el own th D g m (i + 1) env st
      | none => .bad
    | some none => .ok () st
    | none => .bad
/-- nothing is raised out of a block -/
def Res.quiet {α : Type} : Res α → Res α
  | .exc _ _ => .bad
  | r => r
def dLc (it : DI) (t : Tg) (ts : DB) (el : DE) (own : List Nat) : DE := fun th env st => (it th env st).bind fun d st => match d with
  | .vals xs => (lcV t ts el own th st.length xs (wipeE env own) (st ++ [.lst []])).quiet.bind fun _ st' => .ok (.ref st.length) st'
  | .dyn m g => (lcL t ts el own th st.length g m 0 (wipeE env own) (st ++ [.lst []])).quiet.bind fun _ st' => .ok (.ref st.length) st'
def dYes : DB := fun _ _ st => .ok true st
end Mi
end
section
set_option maxRecDepth 100000
set_option maxHeartbeats 4000000
namespace Mi
open PySem PySem.Spec PyProof.Rows L2
/-- in a block nothing is raised -/
abbrev Jx.blk (J : Jx) : Jx := { J with Wx := fun _ _ _ _ => False }
theorem Sit.blk {J : Jx} {ρ : Nat → Addr} {th : Th} {env : Env} {st : Sto} {σ : L2.St} {H : Hp} (S : Sit J ρ th env st σ H) : Sit J.blk ρ th env st σ H := ⟨S.rs, S.env, S.th⟩
theorem takesF {X : Cx} : Takes X (fun _ _ _ _ => False) := fun _ _ ⟨_, _, _, _, _, _, _, _, _, _, _, _, _, _, _, _, w⟩ => w.elim
theorem XK2.blk {X : Cx} {J : Jx} (h : XK2 X J) (s : Shared) (H : Hp) (scope : Scope) (cenv : PySem.Env) (fp : List Addr) : XK2 (X.blk s H scope cenv fp) J.blk :=
  ⟨⟨h.K, h.st, takesF⟩, h.cm, h.nd, PassesOwn.never, h.gd⟩
theorem wipe_idem (σ : L2.St) (vs : List Nat) : L2.wipe (L2.wipe σ vs) vs = L2.wipe σ vs := by
  refine List.ext_getElem? fun i => ?_
  rw [wipe_get, wipe_get, wipe_length]
  by_cases hi : i ∈ vs
  · rw [if_pos hi, if_pos hi]
  · rw [if_neg hi, if_neg hi]
abbrev gU (W : Wd) (r : Res Unit) (H : Hp) (ρ : Nat → Addr) (n : Nat) (Q : Unit → Hp → Prop) : Prop := gR W (fun _ _ _ _ _ => True) (fun _ _ _ => False) r H ρ n Q
theorem gU_of {W : Wd} {H : Hp} {ρ : Nat → Addr} {n nD : Nat} {D : Addr} {r : Res Unit} {E : XK} {Q : VK} (hn : nD < n) (hD : ρ nD = D) (g : gE W E (r.quiet.bind fun _ st' => .ok (.ref nD) st') H ρ n Q) : gU W r H ρ n (fun _ H' => Q (.ref D) H') := by
  cases r with
  | ok u st' => exact fun H' ρ' x s _ => g H' ρ' (.ref D) s ⟨Nat.lt_of_lt_of_le hn s.len, by rw [s.agr nD hn, hD]⟩
  | exc e st' => exact (show False from g).elim
  | bad => exact g
/-- one turn: the target is set; the test, the element, the new item -/
def lcT (ts : DB) (el : DE) (th : Th) (D : Nat) (k : Sto → Res Unit) (env1 : Env) (st : Sto) : Res Unit := (ts th env1 st).bind fun b st => match b with
  | true => (el th env1 st).bind fun y st => match st[D]? with
    | some (.lst acc) => if Nat.blt acc.length 16777216 = true then k (st.set D (.lst (acc ++ [y]))) else .bad
    | _ => .bad
  | false => k st
section
variable {X : Cx} {J : Jx}
theorem rd_turn (J2 : XJ X J) {ts : DB} {el : DE} {nD : Nat} {D : Addr} {k : Sto → Res Unit} {ρ0 ρ : Nat → Addr} {th : Th} {env1 : Env} {st0 st : Sto} {σ1 : L2.St} {H0 H : Hp} {Q : Unit → Hp → Prop} {Nx : Hp → Prop}
    (S : Sit J.blk ρ th env1 st σ1 H) (s0 : Stp J.W H0 ρ0 st0.length H ρ st) (hn : nD < st0.length) (hD : ρ0 nD = D)
    (g : gU J.W (lcT ts el th nD k env1 st) H ρ st.length Q) (fin : ∀ H' ρ' st', Stp J.W H ρ st.length H' ρ' st' → gU J.W (k st') H' ρ' st'.length Q → Nx H') :
    rdB J.blk ts σ1 H fun b H3 => if b = true then rdE J.blk el σ1 H3 fun y H4 => ∃ acc, H4 D = some (.lst acc) ∧ acc.length < sizeLine ∧ Nx (upd H4 D (.lst (acc ++ [y]))) else Nx H3 := by
  refine rd_of S (gR.bind g fun b st2 H2 ρ2 x _ s2 r2 g2 => ?_)
  have r2 : x = b := r2
  subst r2
  cases x with
  | false =>
    rw [if_neg Bool.false_ne_true]
    exact fin H2 ρ2 st2 s2 g2
  | true =>
    rw [if_pos rfl]
    refine rd_of (S.step J2.st s2) (gR.bind g2 fun y st3 H3 ρ3 yv _ s3 r3 g3 => ?_)
    have sT := (s0.trans s2).trans s3
    split at g3
    · rename_i acc ea
      split at g3
      · rename_i hz
        obtain ⟨vs, h1, h2⟩ := s3.rs.lst ea
        have e1 : ρ3 nD = D := by rw [sT.agr nD hn, hD]
        have w := Stp.setL s3.rs ea rfl (h2.append (show RVs J.W H3 ρ3 st3.length [y] [yv] from ⟨yv, [], rfl, r3, rfl⟩))
        rw [e1] at h1 w
        refine ⟨vs, h1, ?_, fin _ _ _ ((s2.trans s3).trans w) ?_⟩
        · rw [← h2.length, sizeLine_eq]
          exact Nat.le_of_ble_eq_true hz
        · exact gR.pre w g3
      · exact g3.elim
    · exact g3.elim
theorem rd_lcV (J2 : XJ X J) {xs : List PV} {It0 : It} {nD : Nat} {D : Addr} {t : Tg} {ts : DB} {el : DE} {own : List Nat} {ρ0 : Nat → Addr} {th : Th} {env0 : Env} {st0 : Sto} {σ : L2.St} {H0 : Hp} {Q : Unit → Hp → Prop} (S0 : Sit J.blk ρ0 th env0 st0 (L2.wipe σ own) H0)
    (hI : ItOK J.W H0 ρ0 st0.length (.vals xs) It0) (hn : nD < st0.length) (hD : ρ0 nD = D) (ht : ∀ i ∈ t.slots, i ∈ own) (g0 : gU J.W (lcV t ts el own th nD xs env0 st0) H0 ρ0 st0.length Q) :
    ∃ W : Nat → Nat → Hp → Prop, (∃ m, W 0 m H0) ∧ ∀ i m H, W i m H →
      (It0.stop i H ∧ Q () H) ∨ (It0.go i H ∧ ∃ Nx : Hp → Prop, (∀ H', Nx H' → ∃ m', m' < m ∧ W (i + 1) m' H') ∧ ∀ x H', It0.yld i H x H' → Tg.rd X.K t x (L2.wipe σ own) H' fun σ2 H2 => L2.wipe σ2 own = L2.wipe σ own ∧ rdB J.blk ts σ2 H2 fun b H3 =>
        if b = true then rdE J.blk el σ2 H3 fun y H4 => ∃ acc, H4 D = some (.lst acc) ∧ acc.length < sizeLine ∧ Nx (upd H4 D (.lst (acc ++ [y]))) else Nx H3) := by
  refine ⟨fun i m H => ∃ ρ st r, Sit J.blk ρ th env0 st (L2.wipe σ own) H ∧ Stp J.W H0 ρ0 st0.length H ρ st ∧ i ≤ xs.length ∧ xs.drop i = r ∧ m = r.length ∧ gU J.W (lcV t ts el own th nD r env0 st) H ρ st.length Q,
    ⟨xs.length, ρ0, st0, xs, S0, .refl S0.rs, Nat.zero_le _, rfl, rfl, g0⟩, ?_⟩
  rintro i m H ⟨ρ, st, r, S, s, hi, hr, hm, g⟩
  obtain ⟨h1, h2⟩ := hI i H ρ st s
  cases r with
  | nil => exact .inl ⟨h2 (drop_nil hr hi), g H ρ () (.refl S.rs) trivial⟩
  | cons p r =>
    obtain ⟨e1, e2⟩ := drop_get hr
    have hlt : i < xs.length := (List.getElem?_eq_some_iff.mp e1).1
    obtain ⟨h3, h4⟩ := h1 p e1
    refine .inr ⟨h3, fun H' => ∃ ρ st, Sit J.blk ρ th env0 st (L2.wipe σ own) H' ∧ Stp J.W H0 ρ0 st0.length H' ρ st ∧ gU J.W (lcV t ts el own th nD r env0 st) H' ρ st.length Q, fun H' ⟨ρ', st', S', s', g'⟩ => ?_, fun x H' y => ?_⟩
    · exact ⟨r.length, by rw [hm]; exact Nat.lt_succ_self _, ρ', st', r, S', s', hlt, e2, rfl, g'⟩
    · obtain ⟨s1, rv⟩ := h4 x H' y
      have g : gU J.W (match t.set p env0 with
        | some env1 => lcT ts el th nD (fun st => lcV t ts el own th nD r env0 st) env1 st
        | none => .bad) H ρ st.length Q := g
      split at g
      · rename_i env1 e
        rw [← J2.K]
        refine Tg.ok t p x env0 env1 _ _ rv (s1.renv S.env) e fun σ1 he1 sa => ⟨by rw [(sa.mono ht).wipe, wipe_idem], ?_⟩
        have S1 : Sit J.blk ρ th env1 st σ1 H' := S.to J2.st s1 he1
        refine rd_turn J2 S1 (s.trans s1) hn hD (gR.pre s1 g) fun H2 ρ2 st2 s2 g2 => ⟨ρ2, st2, ?_, (s.trans s1).trans s2, g2⟩
        exact S.to J2.st (s1.trans s2) ((s1.trans s2).renv S.env)
      · exact g.elim
theorem rd_lcL (J2 : XJ X J) {gg : Nat → Sto → Option (Option PV)} {It0 : It} {nD : Nat} {D : Addr} {t : Tg} {ts : DB} {el : DE} {own : List Nat} {ρ0 : Nat → Addr} {th : Th} {env0 : Env} {st0 : Sto} {σ : L2.St} {H0 : Hp} {Q : Unit → Hp → Prop} {m0 : Nat} (S0 : Sit J.blk ρ0 th env0 st0 (L2.wipe σ own) H0)
    (hI : ItOK J.W H0 ρ0 st0.length (.dyn m0 gg) It0) (hn : nD < st0.length) (hD : ρ0 nD = D) (ht : ∀ i ∈ t.slots, i ∈ own) (g0 : gU J.W (lcL t ts el own th nD gg m0 0 env0 st0) H0 ρ0 st0.length Q) :
    ∃ W : Nat → Nat → Hp → Prop, (∃ m, W 0 m H0) ∧ ∀ i m H, W i m H →
      (It0.stop i H ∧ Q () H) ∨ (It0.go i H ∧ ∃ Nx : Hp → Prop, (∀ H', Nx H' → ∃ m', m' < m ∧ W (i + 1) m' H') ∧ ∀ x H', It0.yld i H x H' → Tg.rd X.K t x (L2.wipe σ own) H' fun σ2 H2 => L2.wipe σ2 own = L2.wipe σ own ∧ rdB J.blk ts σ2 H2 fun b H3 =>
        if b = true then rdE J.blk el σ2 H3 fun y H4 => ∃ acc, H4 D = some (.lst acc) ∧ acc.length < sizeLine ∧ Nx (upd H4 D (.lst (acc ++ [y]))) else Nx H3) := by
  refine ⟨fun i m H => ∃ ρ st, Sit J.blk ρ th env0 st (L2.wipe σ own) H ∧ Stp J.W H0 ρ0 st0.length H ρ st ∧ gU J.W (lcL t ts el own th nD gg m i env0 st) H ρ st.length Q,
    ⟨m0, ρ0, st0, S0, .refl S0.rs, g0⟩, ?_⟩
  rintro i m H ⟨ρ, st, S, s, g⟩
  have hi := hI i H ρ st s
  cases m with
  | zero => exact g.elim
  | succ m =>
    have g : gU J.W (match gg i st with
      | some (some x) => match t.set x env0 with
        | some env1 => lcT ts el th nD (fun st => lcL t ts el own th nD gg m (i + 1) env0 st) env1 st
        | none => .bad
      | some none => .ok () st
      | none => .bad) H ρ st.length Q := g
    cases el' : gg i st with
    | none =>
      rw [el'] at g
      exact g.elim
    | some ex =>
      rw [el'] at g hi
      cases ex with
      | none =>
        exact .inl ⟨hi, g H ρ () (.refl S.rs) trivial⟩
      | some p =>
        obtain ⟨h3, h4⟩ := hi
        dsimp only at g
        refine .inr ⟨h3, fun H' => ∃ ρ st, Sit J.blk ρ th env0 st (L2.wipe σ own) H' ∧ Stp J.W H0 ρ0 st0.length H' ρ st ∧ gU J.W (lcL t ts el own th nD gg m (i + 1) env0 st) H' ρ st.length Q, fun H' h => ⟨m, Nat.lt_succ_self _, h⟩, fun x H' y => ?_⟩
        obtain ⟨s1, rv⟩ := h4 x H' y
        cases ee : t.set p env0 with
        | none =>
          rw [ee] at g
          exact g.elim
        | some env1 =>
          rw [ee] at g
          dsimp only at g
          rw [← J2.K]
          refine Tg.ok t p x env0 env1 _ _ rv (s1.renv S.env) ee fun σ1 he1 sa => ⟨by rw [(sa.mono ht).wipe, wipe_idem], ?_⟩
          have S1 : Sit J.blk ρ th env1 st σ1 H' := S.to J2.st s1 he1
          refine rd_turn J2 S1 (s.trans s1) hn hD (gR.pre s1 g) fun H2 ρ2 st2 s2 g2 => ⟨ρ2, st2, ?_, (s.trans s1).trans s2, g2⟩
          exact S.to J2.st (s1.trans s2) ((s1.trans s2).renv S.env)
/-- the reading of a comprehension -/
theorem rd_lc (J2 : XJ X J) {di : DI} {t : Tg} {ts : DB} {el : DE} {own : List Nat} (ht : ∀ i ∈ t.slots, i ∈ own) {σ : L2.St} {H : Hp} {Q : VK} (h : rdE J (dLc di t ts el own) σ H Q) : tLc (rdI J di) (Tg.rd X.K t) (rdB J.blk ts) (rdE J.blk el) own σ H Q := by
  refine rd_bind J2.st h fun ρ th env st d It0 H1 S hI g => fun D hD => ?_
  have s1 : Stp J.W H1 ρ st.length (upd H1 D (.lst [])) (put ρ st.length D) (st ++ [.lst []]) := .newL S.rs hD rfl
  have len : (st ++ [SO.lst []]).length = st.length + 1 := by simp
  have S1 : Sit J.blk (put ρ st.length D) th (wipeE env own) (st ++ [.lst []]) (L2.wipe σ own) (upd H1 D (.lst [])) := S.blk.to (J := J.blk) J2.st s1 ((s1.renv S.env).wipe own)
  have hn : st.length < (st ++ [SO.lst []]).length := by omega
  split at g
  · rename_i xs
    refine rd_lcV (Q := fun _ H' => Q (.ref D) H') J2 S1 (fun i H' ρ' st' s' => hI i H' ρ' st' (s1.trans s')) hn put_same ht (gU_of hn put_same (gR.pre s1 g))
  · exact rd_lcL (Q := fun _ H' => Q (.ref D) H') J2 S1 (fun i H' ρ' st' s' => hI i H' ρ' st' (s1.trans s')) hn put_same ht (gU_of hn put_same (gR.pre s1 g))
theorem pts_of {c : Expr} {dt : DB} (h : PT X c (rdB J dt)) : PTs X [c] (rdB J dt) := pts_one h
theorem pts_yes : PTs X [] (rdB J dYes) := ⟨fun pins s σ H Q I h => pts_nil.run pins s σ H Q I (by
  obtain ⟨ρ, th, env, st, S, g⟩ := h
  exact g H ρ true (.refl S.rs) rfl)⟩
theorem xe_lc {elt tg iter : Expr} {ifs : List Expr} {scope : Scope} {own : List (Str × Nat)} {pos : Pos} {di : DI} {t : Tg} {ts : DB} {el : DE} (J2 : XK2 X J) (hi : PI X tg iter (rdI J di)) (ok : blkC X.N X.env.scope scope own = true) (hsl : (t.slots.all fun i => (own.map (·.2)).contains i) = true)
    (hg : ∀ (s : Shared) (H : Hp) (C : Addr) (cl : List (Str × Addr)) (fp : List Addr), PG (X.blk s H scope (compEnvC scope cl C X.env) fp) tg (Tg.rd X.K t)) (ht : ∀ (s : Shared) (H : Hp) (C : Addr) (cl : List (Str × Addr)) (fp : List Addr), PTs (X.blk s H scope (compEnvC scope cl C X.env) fp) ifs (rdB J.blk ts))
    (he : ∀ (s : Shared) (H : Hp) (C : Addr) (cl : List (Str × Addr)) (fp : List Addr), PE (X.blk s H scope (compEnvC scope cl C X.env) fp) elt (rdE J.blk el)) (hs : ∀ x, foldedSetIterable iter X.env x = pure x := by intro _; rfl) :
    PE X (.ListComp elt [⟨tg, iter, ifs, 0⟩] scope pos) (rdE J (dLc di t ts el (own.map (·.2)))) :=
  PE.imp (pe_lc J2.cm J2.nd hi (blkOk_by ok) hg ht he hs) fun σ H Q h => rd_lc J2.toXJ (fun i hi => by simpa using List.all_eq_true.mp hsl i hi) h
theorem ys_setLc {i : Nat} {y : Str} {py : Pos} {elt tg iter : Expr} {ifs : List Expr} {scope : Scope} {own : List (Str × Nat)} {pos spos : Pos} {di : DI} {t : Tg} {ts : DB} {el : DE} (J2 : XK2 X J) (hy : X.N[i]? = some y) (hyl : X.env.scope.names.lookup y = some .local)
    (hsw : swapsWith (.ListComp elt [⟨tg, iter, ifs, 0⟩] scope pos) (some (.Name y py)) spos.line X.env = pure true) (hi : PI X tg iter (rdI J di)) (ok : blkC X.N X.env.scope scope own = true) (hsl : (t.slots.all fun i => (own.map (·.2)).contains i) = true)
    (hg : ∀ (s : Shared) (H : Hp) (C : Addr) (cl : List (Str × Addr)) (fp : List Addr), PG (X.blk s H scope (compEnvC scope cl C X.env) fp) tg (Tg.rd X.K t)) (ht : ∀ (s : Shared) (H : Hp) (C : Addr) (cl : List (Str × Addr)) (fp : List Addr), PTs (X.blk s H scope (compEnvC scope cl C X.env) fp) ifs (rdB J.blk ts))
    (he : ∀ (s : Shared) (H : Hp) (C : Addr) (cl : List (Str × Addr)) (fp : List Addr), PE (X.blk s H scope (compEnvC scope cl C X.env) fp) elt (rdE J.blk el)) (hs : ∀ x, foldedSetIterable iter X.env x = pure x := by intro _; rfl) :
    PS X (.Assign [.Name y py] (.ListComp elt [⟨tg, iter, ifs, 0⟩] scope pos) spos) (rdS J (dSet (.nm i) (dLc di t ts el (own.map (·.2))))) :=
  PS.imp (ps_setLc J2.cm J2.nd hy hyl hsw hi (blkOk_by ok) hg ht he hs) fun D σ H h => by
    have h2 := rs_set J2.toXJ h
    exact rd_lc (σ := σ) J2.toXJ (fun i hi => by simpa using List.all_eq_true.mp hsl i hi) h2
end
end Mi
end
section
set_option maxRecDepth 100000
set_option maxHeartbeats 4000000
namespace Mi
open PySem PySem.Spec PyProof.Rows L2
/-! ### what the iterators of the layer walk -/
section
variable {W : Wd} {H0 : Hp} {ρ0 : Nat → Addr} {n0 : Nat}
theorem it_lst {k m : Nat} (hk : k < n0) : ItOK W H0 ρ0 n0 (.dyn m (lstG k)) (Itl W.K (ρ0 k)) := fun i H ρ st s => by
  unfold lstG
  cases e : lstAt st k with
  | none => trivial
  | some xs =>
    obtain ⟨vs, q, hv⟩ := s.rs.seq e
    rw [s.agr k hk] at q
    dsimp only
    cases ex : xs[i]? with
    | none => exact ⟨vs, q, by rw [← hv.length]; exact List.getElem?_eq_none_iff.mp ex⟩
    | some p =>
      obtain ⟨v, e1, rv⟩ := hv.get ex
      refine ⟨⟨vs, v, q, e1⟩, fun x H' ⟨e2, y⟩ => ?_⟩
      subst e2
      have e3 := y vs q
      rw [e1] at e3
      cases e3
      exact ⟨.refl s.rs, rv⟩
theorem it_tup {a : Addr} {ps : List PV} {vs : List V} (hs : SqT W.K H0 a vs) (hv : RVs W H0 ρ0 n0 ps vs) : ItOK W H0 ρ0 n0 (.vals ps) (Itt W.K a) := fun i H ρ st s => by
  have hq := s.ext.sqT hs
  have hr := s.rvs hv
  refine ⟨fun p e => ?_, fun e => ⟨vs, hq, by rw [← hv.length, e]; exact Nat.le_refl _⟩⟩
  obtain ⟨v, e1, rv⟩ := hr.get e
  refine ⟨⟨vs, v, hq, e1⟩, fun x H' ⟨e2, y⟩ => ?_⟩
  subst e2
  have e3 := y vs hq
  rw [e1] at e3
  cases e3
  exact ⟨.refl s.rs, rv⟩
theorem it_str {xs : List Nat} : ItOK W H0 ρ0 n0 (.vals (xs.map fun c => .str [c])) (Its ⟨xs.toArray⟩) := fun i H ρ st s => by
  refine ⟨fun p e => ?_, fun e => by
    show xs.toArray.size ≤ i
    rw [e, List.length_map, List.size_toArray] <;> exact Nat.le_refl _⟩
  rw [List.getElem?_map] at e
  cases ex : xs[i]? with
  | none =>
    rw [ex] at e
    cases e
  | some c =>
    rw [ex] at e
    cases e
    have hl : i < xs.length := (List.getElem?_eq_some_iff.mp ex).1
    refine ⟨by
      show i < xs.toArray.size
      rw [List.size_toArray]
      exact hl, fun x H' ⟨e2, d, e3, e4⟩ => ?_⟩
    subst e2 e4
    have e5 : xs.toArray[i]? = some d := e3
    rw [List.getElem?_toArray, ex] at e5
    cases e5
    exact ⟨.refl s.rs, rfl⟩
def rngV (lo c : Int) : Nat → List PV
  | 0 => []
  | n + 1 => .int lo :: rngV (lo + c) c n
theorem rngV_get (c : Int) : ∀ (n : Nat) (lo : Int) (i : Nat) (p : PV), (rngV lo c n)[i]? = some p → i < n ∧ p = .int (lo + (i : Nat) * c)
  | 0, lo, i, p, e => by simp [rngV] at e
  | n + 1, lo, 0, p, e => by
    simp [rngV] at e
    subst e
    exact ⟨Nat.succ_pos _, by simp⟩
  | n + 1, lo, i + 1, p, e => by
    obtain ⟨h1, h2⟩ := rngV_get c n (lo + c) i p (by simpa [rngV] using e)
    refine ⟨Nat.succ_lt_succ h1, ?_⟩
    rw [h2]
    congr 1
    push_cast
    rw [Int.add_mul, Int.one_mul]
    omega
theorem rngV_len (c : Int) : ∀ (n : Nat) (lo : Int), (rngV lo c n).length = n
  | 0, _ => rfl
  | n + 1, lo => by rw [rngV, List.length_cons, rngV_len c n]
theorem it_rng {lo : Int} {n : Nat} : ItOK W H0 ρ0 n0 (.vals (rngV lo 1 n)) (Itr lo n) := fun i H ρ st s => by
  refine ⟨fun p e => ?_, fun e => by
    rw [rngV_len] at e
    exact Nat.le_of_eq e.symm⟩
  obtain ⟨h1, h2⟩ := rngV_get 1 n lo i p e
  refine ⟨h1, fun x H' ⟨e2, e3⟩ => ?_⟩
  subst e2 e3 h2
  exact ⟨.refl s.rs, by rw [Int.mul_one]; rfl⟩
theorem it_rngC {lo c : Int} {n : Nat} : ItOK W H0 ρ0 n0 (.vals (rngV lo c n)) (Itc lo c n) := fun i H ρ st s => by
  refine ⟨fun p e => ?_, fun e => by
    rw [rngV_len] at e
    exact Nat.le_of_eq e.symm⟩
  obtain ⟨h1, h2⟩ := rngV_get c n lo i p e
  refine ⟨h1, fun x H' ⟨e2, e3⟩ => ?_⟩
  subst e2 e3 h2
  exact ⟨.refl s.rs, rfl⟩
end
/-! ### combinators -/
/-- a list, a tuple, a text, walked -/
def itOf (v : PV) (st : Sto) : Res ItD := match v with
  | .ref k => match lstAt st k with
    | some xs => .ok (.dyn (xs.length + 1) (lstG k)) st
    | none => .bad
  | .tup xs => .ok (.vals xs) st
  | .str s => .ok (.vals (s.map fun c => .str [c])) st
  | _ => .bad
def dIt (d : DE) : DI := fun th env st => (d th env st).bind fun v st => itOf v st
def okI (i : Int) : Bool := decide (-(2 ^ 62) ≤ i) && decide (i < 2 ^ 62)
theorem okI_le {i : Int} (h : okI i = true) : -(2 ^ 62) ≤ i ∧ i < 2 ^ 62 := by
  unfold okI at h
  rw [Bool.and_eq_true] at h
  exact ⟨of_decide_eq_true h.1, of_decide_eq_true h.2⟩
def fRng1 (xs : List PV) (st : Sto) : Res ItD := match xs with
  | [.int j] => if okI j = true then .ok (.vals (rngV 0 1 j.toNat)) st else .bad
  | _ => .bad
def fRng2 (xs : List PV) (st : Sto) : Res ItD := match xs with
  | [.int i, .int j] => if (okI i && okI j) = true then .ok (.vals (rngV i 1 (j - i).toNat)) st else .bad
  | _ => .bad
def okC (i j c : Int) (n : Nat) : Bool := (c != 0) && decide (c.natAbs < 1073741824) && Builtin.Range.small i j c && (Builtin.Range.rangeSize i j c == n)
def fRng3 (xs : List PV) (st : Sto) : Res ItD := match xs with
  | [.int i, .int j, .int c] => if okC i j c (Builtin.Range.rangeSize i j c).toNat = true then .ok (.vals (rngV i c (Builtin.Range.rangeSize i j c).toNat)) st else .bad
  | _ => .bad
def dRng (f : List PV → Sto → Res ItD) (a : DL) : DI := fun th env st => (a th env st).bind fun xs st => f xs st
section
variable {X : Cx} {J : Jx} {tg e : Expr} {de : DE}
theorem PI.imp {iter : Expr} {w w' : TI} (h : PI X tg iter w) (k : ∀ σ H R, w' σ H R → w σ H R) : PI X tg iter w' := ⟨fun pins s σ H R I q => h.run pins s σ H R I (k σ H R q)⟩
theorem PI.byCases {iter : Expr} {w' : TI} (k : ∀ σ H R, w' σ H R → ∃ w : TI, PI X tg iter w ∧ w σ H R) : PI X tg iter w' := ⟨fun pins s σ H R I q => by
  obtain ⟨w, h, q⟩ := k σ H R q
  exact h.run pins s σ H R I q⟩
theorem xi_val (J2 : XJ X J) (he : PE X e (rdE J de)) : PI X tg e (rdI J (dIt de)) := PI.byCases fun σ H R h => by
  obtain ⟨ρ, th, env, st, S, g⟩ := h
  unfold dIt at g
  cases r : de th env st with
  | bad =>
    rw [r] at g
    exact g.elim
  | exc x st' =>
    refine ⟨_, pi_list he, ρ, th, env, st, S, ?_⟩
    rw [r] at g ⊢
    exact g
  | ok v st' =>
    rw [r] at g
    replace g : gR J.W (fun H ρ n p x => ItOK J.W H ρ n p x) (fun c dd H' => J.Wx c dd σ H') (itOf v st') H ρ st.length R := g
    unfold itOf at g
    split at g
    · split at g
      · rename_i k xs ex
        refine ⟨_, pi_list he, ρ, th, env, st, S, ?_⟩
        rw [r]
        intro H' ρ' x s rv
        obtain ⟨hk, rfl⟩ := rv
        obtain ⟨vs, q, _⟩ := s.rs.seq ex
        exact ⟨_, rfl, ⟨vs, by rw [← J2.K]; exact q⟩, by rw [← J2.K]; exact g H' ρ' _ s (it_lst hk)⟩
      · exact g.elim
    · refine ⟨_, pi_tup he, ρ, th, env, st, S, ?_⟩
      rw [r]
      intro H' ρ' x s rv
      obtain ⟨a, vs, rfl, hs, hv⟩ := rv
      exact ⟨_, rfl, ⟨vs, by rw [← J2.K]; exact hs⟩, by rw [← J2.K]; exact g H' ρ' _ s (it_tup hs hv)⟩
    · refine ⟨_, pi_str he, ρ, th, env, st, S, ?_⟩
      rw [r]
      intro H' ρ' x s rv
      exact ⟨_, rv, g H' ρ' _ s it_str⟩
    · exact g.elim
theorem xi_rng1 {a : Expr} {dl : DL} {p pos : Pos} (J2 : XJ X J) (hg : Gl X "range") (hm : X.mg "range" = none) (ha : PA X [a] (rdL J dl)) (hs : starEach [a] X.env = [(false, eval a X.env)] := by rfl) : PI X tg (.Call (.Name "range" p) [a] [] pos) (rdI J (dRng fRng1 dl)) :=
  PI.imp (pi_range1 hg hm ha hs) fun σ H R h => rd_bind J2.st h fun ρ th env st v x H1 S rv g => by
    unfold fRng1 at g
    split at g
    · split at g
      · rename_i j hj
        obtain ⟨y, rfl, ry⟩ := rv.one
        have ry : y = .int j := ry
        subst ry
        exact ⟨j, rfl, (okI_le hj).1, (okI_le hj).2, g H1 ρ _ (.refl S.rs) it_rng⟩
      · exact g.elim
    · exact g.elim
theorem xi_rng2 {a b : Expr} {dl : DL} {p pos : Pos} (J2 : XJ X J) (hg : Gl X "range") (hm : X.mg "range" = none) (ha : PA X [a, b] (rdL J dl)) (hs : starEach [a, b] X.env = [(false, eval a X.env), (false, eval b X.env)] := by rfl) (hs2 : starEach [b] X.env = [(false, eval b X.env)] := by rfl) :
    PI X tg (.Call (.Name "range" p) [a, b] [] pos) (rdI J (dRng fRng2 dl)) :=
  PI.imp (pi_range2 hg hm ha hs hs2) fun σ H R h => rd_bind J2.st h fun ρ th env st v x H1 S rv g => by
    unfold fRng2 at g
    split at g
    · split at g
      · rename_i i j hj
        rw [Bool.and_eq_true] at hj
        obtain ⟨y, z, rfl, ry, rz⟩ := rv.two
        have ry : y = .int i := ry
        have rz : z = .int j := rz
        subst ry rz
        exact ⟨i, j, rfl, ⟨(okI_le hj.1).1, (okI_le hj.1).2, (okI_le hj.2).1, (okI_le hj.2).2⟩, g H1 ρ _ (.refl S.rs) it_rng⟩
      · exact g.elim
    · exact g.elim
theorem xi_rng3 {a b c : Expr} {dl : DL} {p pos : Pos} (J2 : XJ X J) (hg : Gl X "range") (hm : X.mg "range" = none) (ha : PA X [a, b, c] (rdL J dl)) (hs : starEach [a, b, c] X.env = (false, eval a X.env) :: starEach [b, c] X.env := by rfl) (hpl : (backTo pos (starEach [b, c] X.env)).any (·.1) = false := by rfl) :
    PI X tg (.Call (.Name "range" p) [a, b, c] [] pos) (rdI J (dRng fRng3 dl)) :=
  PI.imp (pi_range3 hg hm ha hs hpl) fun σ H R h => rd_bind J2.st h fun ρ th env st v x H1 S rv g => by
    unfold fRng3 at g
    split at g
    · split at g
      · rename_i i j k hj
        unfold okC at hj
        rw [Bool.and_eq_true, Bool.and_eq_true, Bool.and_eq_true] at hj
        obtain ⟨⟨⟨h1, h2⟩, h3⟩, h4⟩ := hj
        obtain ⟨y, z, u, rfl, ry, rz, ru⟩ := rv.three
        have ry : y = .int i := ry
        have rz : z = .int j := rz
        have ru : u = .int k := ru
        subst ry rz ru
        exact ⟨i, j, k, _, rfl, ⟨bne_iff_ne.mp h1, of_decide_eq_true h2, h3, eq_of_beq h4⟩, g H1 ρ _ (.refl S.rs) it_rngC⟩
      · exact g.elim
    · exact g.elim
end
/-! ### enumerate of a tuple, of a text -/
/-- the i-th item with its number, in a new tuple -/
def Ien (J0 : It) : It := ⟨J0.go, fun i H v H' => ∃ T x, v = .ref T ∧ H T = none ∧ H' = upd H T (.tup [.int i, x]) ∧ J0.yld i H x H, J0.stop⟩
theorem turn_enumD {P : Program} {w : World} {K : PySem.W.Frag} {elts : List Expr} {kk : Nat} {tpos : Pos} {e it : Addr} {tnI : Nat → Heap → Prop} {J0 : It} (hne : e ≠ it)
    (cell : ∀ i h, tnI i h → ∃ o, h.get? it = some o ∧ ∀ v, o.data ≠ .cell v) (keep : ∀ i h h', tnI i h → (∀ o, h.get? it = some o → h'.get? it = some o) → tnI i h')
    (dr : ∀ (X : Cx), X.prog = P → X.w = w → X.K = K → ∀ (pins : List (Addr × Obj)) (σ : L2.St) (H : Hp) (s : Shared), Inv X pins σ H s → ∀ i, tnI i s.heap → (∃ c old, IsEnum s.heap e it c old) → J0.go i H ∨ J0.stop i H →
      ∃ (fp : List Addr) (n : Nat) (Pv : Nat → Value → Prop) (St : Nat → Heap → Prop), it ∈ fp ∧ e ∉ fp ∧ (∀ A : Around, A.handled = none → Draws P w A it fp n Pv St) ∧ St i s.heap ∧ (∀ h, St (i + 1) h → tnI (i + 1) h) ∧
        (J0.go i H → i < n ∧ ∀ y, Pv i y → ∃ x, RelV x y ∧ J0.yld i H x H) ∧ (J0.stop i H → i = n)) :
    Turn P w K (.Tuple elts kk tpos) (Ien J0) [e, it] e (fun i h => (∃ old, IsEnum h e it (i : Nat) old) ∧ tnI i h) where
  mem := List.mem_cons_self
  obj := fun i h st b hb => by
    obtain ⟨⟨old, he⟩, ht⟩ := st
    rcases List.mem_cons.mp hb with z | z
    · rw [z]
      exact ⟨_, he, fun v q => nomatch q⟩
    · rw [List.mem_singleton.mp z]
      exact cell i h ht
  keep := fun i h h' st k => ⟨let ⟨old, he⟩ := st.1; ⟨old, k e List.mem_cons_self _ he⟩, keep i h h' st.2 fun o q => k it (List.mem_cons_of_mem _ List.mem_cons_self) o q⟩
  item := by
    intro X hP hw hK hc i pins s σ H E I hf st hg
    obtain ⟨⟨old, he⟩, ht⟩ := st
    obtain ⟨fp, n, Pv, St, m1, m2, D, hst, back, hgo, _⟩ := dr X hP hw hK pins σ H s I i ht ⟨_, old, he⟩ (.inl hg)
    obtain ⟨hin, hy⟩ := hgo hg
    subst hP hw
    have e0 : (0 : Int) + (i : Nat) = (i : Nat) := Int.zero_add _
    have el : e < s.heap.objs.size := Heap.lt_size he
    obtain ⟨oi, hoi, _⟩ := cell i s.heap ht
    refine (GoesN.enumFrom (elts := elts) (x1 := kk) (pos := tpos) 0 (D X.A.in1 (I.ok.hd hc)) e hne m2 m1).goes i s (fun v s2 => ∃ x H', Inv X pins σ H' s2 ∧ RelV x v ∧ (Ien J0).yld i H x H' ∧ ((∃ old, IsEnum s2.heap e it ((i + 1 : Nat) : Int) old) ∧ tnI (i + 1) s2.heap) ∧ ∀ b ∈ [e, it], H' b = none) E hin ⟨⟨old, by rw [e0]; exact he⟩, hst⟩ fun v h' tk hY st' hk _ => ?_
    obtain ⟨T, t, y, rfl, hT, hPy, hI⟩ := hY
    obtain ⟨x, rx, yx⟩ := hy y hPy
    obtain ⟨ho, hx1, hx2, hx3⟩ := hI
    have new : ObjOk X.prog X.w (upd H T (.tup [.int (i : Nat), x])) h' T (.tup [.int (i : Nat), x]) :=
      ⟨by show 2 ≤ sizeLine; decide, [.int (0 + ((i : Nat) : Int)) t, y], .cons ⟨t, by rw [e0]⟩ (.cons rx .nil), ⟨ho, hx1, hx2, hx3⟩⟩
    have I1 : Inv X pins σ (upd H T (.tup [.int (i : Nat), x])) { s with heap := h', toks := tk } := I.turnedNew (ch := [e, it]) (fun b o hb q => hk b o hb q) hf hT new
    refine ⟨.ref T, _, I1, rfl, ⟨T, x, rfl, I.hok.fresh hT, rfl, yx⟩, ⟨?_, back _ st'.2⟩, fun b hb => ?_⟩
    · obtain ⟨old', he'⟩ := st'.1
      rw [Int.zero_add] at he'
      exact ⟨old', he'⟩
    · have hlt : b < s.heap.objs.size := by
        rcases List.mem_cons.mp hb with z | z
        · rw [z]
          exact el
        · rw [List.mem_singleton.mp z]
          exact Heap.lt_size hoi
      rw [upd_ne (Nat.ne_of_lt (Nat.lt_of_lt_of_le hlt hT))]
      exact (hf b hb).1
  done := by
    intro X hP hw hK hc i pins s σ H E I hf st hg
    obtain ⟨⟨old, he⟩, ht⟩ := st
    obtain ⟨fp, n, Pv, St, m1, m2, D, hst, back, _, hstop⟩ := dr X hP hw hK pins σ H s I i ht ⟨_, old, he⟩ (.inr hg)
    have hn := hstop hg
    subst hP hw hn
    have e0 : (0 : Int) + (i : Nat) = (i : Nat) := Int.zero_add _
    exact (GoesN.enumFrom (elts := elts) (x1 := kk) (pos := tpos) 0 (D X.A.in1 (I.ok.hd hc)) e hne m2 m1).stops s (fun s1 => Inv X pins σ H s1) E ⟨⟨old, by rw [e0]; exact he⟩, hst⟩ fun h' tk hk _ => I.turnedL (ch := [e, it]) (fun b o hb q => hk b o hb q) hf
  self := fun A i s Q E st h => by
    obtain ⟨⟨old, he⟩, _⟩ := st
    exact wpAny_pyIter_enum he h
end Mi
end
section
set_option maxRecDepth 100000
set_option maxHeartbeats 4000000
namespace Mi
open PySem PySem.Spec PyProof.Rows L2
open Sem (wp)
theorem meets_enumB {v : Value} {ob : Obj} {Hv : Heap → Prop} (B : Begins v ob Hv) :
    Meets (Builtin.«enumerate.__new__» ⟨[.type "enumerate", v], []⟩) (fun _ R s => Hv s.heap ∧
      R (.ok (.ret (.ref (s.heap.push ob).objs.size))) { s with heap := (s.heap.push ob).push { cls := .type "enumerate", data := .fields #[.none, .bool false, .ref s.heap.objs.size, rawInt 0, .none, .none] } }) :=
  .of_wp fun prog w A R s hh => by
    obtain ⟨h0, gens, drawn, toks, os⟩ := s
    obtain ⟨hv, hh⟩ := hh
    have sub0 := sub_enumerate
    have it0 : ∀ {A' : Around} {E : Value → Shared → Prop} {Q : Value → Shared → Prop}, Q (.ref h0.objs.size) ⟨h0.push ob, gens, drawn, toks, os⟩ → wpAny (model prog w) A' (pyIter v) Q E ⟨h0, gens, drawn, toks, os⟩ := fun q =>
      B.iter prog w _ _ ⟨h0, gens, drawn, toks, os⟩ _ hv q
    wp_walk using it0
    refine wpAny_stack_any fun stk => wpAny_pure ?_
    split
    · rename_i cc _ _ _ _ _
      cases (cc == Value.type "enumerate")
      · wp_walk using it0
        exact ⟨_, rfl, hh⟩
      · wp_walk using it0
        exact ⟨_, rfl, hh⟩
    · wp_walk using it0
      exact ⟨_, rfl, hh⟩
section
variable {prog : Program} {w : World} {A : Around} {E : Value → Shared → Prop} {s : Shared}
theorem enumB1 {v : Value} {ob : Obj} {Hv : Heap → Prop} {Q : Value → Shared → Prop} (B : Begins v ob Hv) (hv : Hv s.heap)
    (h : ∀ h', IsEnum h' (s.heap.objs.size + 1) s.heap.objs.size 0 .none → h'.get? s.heap.objs.size = some ob → (∀ b o, s.heap.get? b = some o → h'.get? b = some o) → Q (.ref (s.heap.objs.size + 1)) { s with heap := h' }) :
    wpAny (model prog w) A (call (.type "enumerate") [v]) Q E s := by
  refine callType_new F.called_enumerate (by decide) (F.typeCall_enumerate_1 _) (F.newCall_enumerate_1 _) (fun x => F.args_object_init_2 x _) F.entry_enumerate_new (meets_enumB B) ⟨hv, ?_⟩
  have z1 : (s.heap.push ob).objs.size = s.heap.objs.size + 1 := Heap.size_push ..
  have z2 := Heap.get?_push_size (s.heap.push ob) (o := { cls := .type "enumerate", data := .fields #[.none, .bool false, .ref s.heap.objs.size, rawInt 0, .none, .none] }) rfl
  show _ ∧ _
  rw [z1] at z2 ⊢
  exact ⟨⟨_, z2, rfl⟩, h _ z2 (Heap.get?_push_of_some _ (Heap.get?_push_size _ B.free)) fun b o q => Heap.get?_push_of_some _ (Heap.get?_push_of_some _ q)⟩
end
/-- what is drawn of a tuple; its end is its length -/
def Itt1 (K : PySem.W.Frag) (a : Addr) : It := { Itt K a with stop := fun i H => ∃ xs, SqT K H a xs ∧ xs.length = i }
def Its1 (x : Str) : It := { Its x with stop := fun i _ => x.cps.size = i }
section
variable {X : Cx} {J : Jx} {e : Expr} {de : DE} {elts : List Expr} {kk : Nat} {p pos tpos : Pos} {ta : TA}
def iEnT (K : PySem.W.Frag) (ta : TA) : TI := fun σ H R => ta σ H fun vs H1 => ∃ (a : Addr) (xs : List V), vs = [.ref a] ∧ SqT K H1 a xs ∧ R (Ien (Itt1 K a)) H1
theorem pi_enT (hg : Gl X "enumerate") (hm : X.mg "enumerate" = none) (ha : PA X [e] ta) (hs : starEach [e] X.env = [(false, eval e X.env)] := by rfl) : PI X (.Tuple elts kk tpos) (.Call (.Name "enumerate" p) [e] [] pos) (iEnT X.K ta) := by
  refine ⟨fun pins s σ H R I h => Call_ (ld_blt I hg hm boot_enumerate (PyProof.Rows.callWith_type1 (thn (ha.run pos pins s σ H _ I h) fun us s1 ⟨vs, H1, I1, r1, q1⟩ => ?_) hs rfl))⟩
  obtain ⟨a, xs, ex, hq, q⟩ := q1
  subst ex
  obtain ⟨u, rfl, ru⟩ := r1.one
  cases ru
  obtain ⟨its, rv, tp, hz⟩ := I1.tuple hq
  refine enumB1 (begins_tuple a its.toArray) (show s1.heap.IsTuple a its.toArray from tp) fun h' he hit hk => wpAny_pyIter_enum he ?_
  have I2 : Inv X pins σ H1 { s1 with heap := h' } := I1.kept (t' := s1.toks) hk
  have fr : ∀ b ∈ [s1.heap.objs.size + 1, s1.heap.objs.size], FpOk X pins H1 b := fun b hb => by
    have hle : s1.heap.objs.size ≤ b := by
      rcases List.mem_cons.mp hb with z | z
      · omega
      · have := List.mem_singleton.mp z
        omega
    exact I1.fpOk hle (I1.hok.fresh hle)
  refine ⟨s1.heap.objs.size + 1, _, _, Ien (Itt1 X.K a), H1, rfl, I2, turn_enumD (e := s1.heap.objs.size + 1) (it := s1.heap.objs.size) (tnI := fun i h => h.IsTupleIter s1.heap.objs.size a i) (Nat.succ_ne_self _) (fun i h ⟨o, e1, _, e2⟩ => ⟨o, e1, fun v z => by rw [e2] at z; cases z⟩)
    (fun i h h2 ⟨o, e1, e2⟩ k => ⟨o, k o e1, e2⟩) ?_, ⟨⟨.none, he⟩, ⟨_, hit, rfl, rfl⟩⟩, fr, q⟩
  intro X' hP hw hK pins' σ' H' s' I' i ht ⟨c, old, he'⟩ hgs
  have hq' : ∃ ys, SqT X.K H' a ys := by
    rcases hgs with ⟨ys, _, hy, _⟩ | ⟨ys, hy, _⟩
    · exact ⟨ys, hy⟩
    · exact ⟨ys, hy⟩
  obtain ⟨ys, hy⟩ := hq'
  rw [← hK] at hy
  obtain ⟨its', rv', tp', _⟩ := I'.tuple hy
  have tp2 : s'.heap.IsTuple a its'.toArray := tp'
  have nea : s1.heap.objs.size + 1 ≠ a := fun z => by
    obtain ⟨o, e1, e2, _⟩ := tp2
    rw [← z, he'] at e1
    cases e1
    exact absurd (Value.type.inj e2) (by decide)
  have nia : a ≠ s1.heap.objs.size := fun z => by
    obtain ⟨o, e1, e2, _⟩ := tp2
    obtain ⟨o2, e3, e4, _⟩ := ht
    rw [z, e3] at e1
    cases e1
    rw [e4] at e2
    exact absurd (Value.type.inj e2) (by decide)
  refine ⟨[s1.heap.objs.size, a], its'.toArray.size, _, _, List.mem_cons_self, fun hm => ?_, fun A hA => Draws.tuple hA _ _ nia its'.toArray, ⟨ht, tp2⟩, fun h z => z.1, fun hgo => ?_, fun hst => ?_⟩
  · rcases List.mem_cons.mp hm with z | z
    · exact Nat.succ_ne_self _ z
    · exact nea (List.mem_singleton.mp z)
  · obtain ⟨zs, x, hz1, hx⟩ := hgo
    rw [← hK] at hz1
    have ezs := I'.tuple_inj hz1 hy
    subst ezs
    obtain ⟨u, hu, ru⟩ := rv'.get hx
    refine ⟨by rw [List.size_toArray]; exact (List.getElem?_eq_some_iff.mp hu).1, fun y hy' => ⟨x, ?_, rfl, fun ws hw' => ?_⟩⟩
    · have : its'.toArray[i]? = some y := hy'
      rw [List.getElem?_toArray, hu] at this
      cases this
      exact ru
    · rw [← hK] at hw'
      rw [I'.tuple_inj hw' hy]
      exact hx
  · obtain ⟨zs, hz1, hx⟩ := hst
    rw [← hK] at hz1
    rw [List.size_toArray, ← rv'.length, ← hx, I'.tuple_inj hz1 hy]
def iEnS (ta : TA) : TI := fun σ H R => ta σ H fun vs H1 => ∃ x, vs = [.str x] ∧ R (Ien (Its1 x)) H1
theorem pi_enS (hg : Gl X "enumerate") (hm : X.mg "enumerate" = none) (ha : PA X [e] ta) (hs : starEach [e] X.env = [(false, eval e X.env)] := by rfl) : PI X (.Tuple elts kk tpos) (.Call (.Name "enumerate" p) [e] [] pos) (iEnS ta) := by
  refine ⟨fun pins s σ H R I h => Call_ (ld_blt I hg hm boot_enumerate (PyProof.Rows.callWith_type1 (thn (ha.run pos pins s σ H _ I h) fun us s1 ⟨vs, H1, I1, r1, q1⟩ => ?_) hs rfl))⟩
  obtain ⟨x, ex, q⟩ := q1
  subst ex
  obtain ⟨u, rfl, ru⟩ := r1.one
  obtain ⟨t, rfl⟩ := ru
  refine enumB1 (begins_text x t) trivial fun h' he hit hk => wpAny_pyIter_enum he ?_
  have I2 : Inv X pins σ H1 { s1 with heap := h' } := I1.kept (t' := s1.toks) hk
  have fr : ∀ b ∈ [s1.heap.objs.size + 1, s1.heap.objs.size], FpOk X pins H1 b := fun b hb => by
    have hle : s1.heap.objs.size ≤ b := by
      rcases List.mem_cons.mp hb with z | z
      · omega
      · have := List.mem_singleton.mp z
        omega
    exact I1.fpOk hle (I1.hok.fresh hle)
  refine ⟨s1.heap.objs.size + 1, _, _, Ien (Its1 x), H1, rfl, I2, turn_enumD (e := s1.heap.objs.size + 1) (it := s1.heap.objs.size) (tnI := fun i h => h.IsStrIter s1.heap.objs.size (strIterType x) x t i) (Nat.succ_ne_self _) (fun i h ⟨o, e1, _, e2⟩ => ⟨o, e1, fun v z => by rw [e2] at z; cases z⟩)
    (fun i h h2 ⟨o, e1, e2⟩ k => ⟨o, k o e1, e2⟩) ?_, ⟨⟨.none, he⟩, ⟨_, hit, rfl, rfl⟩⟩, fr, q⟩
  intro X' hP hw hK pins' σ' H' s' I' i ht _ hgs
  refine ⟨[s1.heap.objs.size], x.cps.size, _, _, List.mem_cons_self, fun hm => Nat.succ_ne_self _ (List.mem_singleton.mp hm), fun A hA => Draws.text hA _ x t, ht, fun h z => z, fun hgo => ?_, fun hst => ?_⟩
  · refine ⟨hgo, fun y ⟨c, u, hc, hy⟩ => ⟨.str ⟨#[c]⟩, ⟨u, hy⟩, rfl, c, hc, rfl⟩⟩
  · have : x.cps.size = i := hst
    exact this.symm
end
/-! ### the readings -/
def enV : Int → List PV → List PV
  | _, [] => []
  | i, x :: xs => .tup [.int i, x] :: enV (i + 1) xs
theorem enV_get : ∀ (xs : List PV) (j : Int) (i : Nat), (enV j xs)[i]? = match xs[i]? with
    | some x => some (PV.tup [.int (j + (i : Nat)), x])
    | none => none
  | [], j, i => by simp [enV]
  | x :: xs, j, 0 => by simp [enV]
  | x :: xs, j, i + 1 => by
    have := enV_get xs (j + 1) i
    simp only [enV, List.getElem?_cons_succ]
    rw [this]
    have e : j + 1 + ((i : Nat) : Int) = j + ((i + 1 : Nat) : Int) := by push_cast; omega
    rw [e]
theorem enV_len : ∀ (xs : List PV) (j : Int), (enV j xs).length = xs.length
  | [], _ => rfl
  | x :: xs, j => by rw [enV, List.length_cons, List.length_cons, enV_len xs]
def enG (k : Nat) : Nat → Sto → Option (Option PV) := fun i st => match lstAt st k with
  | some xs => match xs[i]? with
    | some x => some (some (.tup [.int (i : Nat), x]))
    | none => some none
  | none => none
def fEn (vs : List PV) (st : Sto) : Res ItD := match vs with
  | [.ref k] => match lstAt st k with
    | some xs => .ok (.dyn (xs.length + 1) (enG k)) st
    | none => .bad
  | [.tup xs] => .ok (.vals (enV 0 xs)) st
  | [.str s] => .ok (.vals (enV 0 (s.map fun c => .str [c]))) st
  | _ => .bad
section
variable {W : Wd} {H0 : Hp} {ρ0 : Nat → Addr} {n0 : Nat}
theorem rv_pair {H : Hp} {ρ : Nat → Addr} {n : Nat} {T : Addr} {i : Int} {p : PV} {x : V} (hT : H T = none) (h : RV W H ρ n p x) : RV W (upd H T (.tup [.int i, x])) ρ n (.tup [.int i, p]) (.ref T) :=
  rv_newT (xs := [.int i, p]) (vs := [.int i, x]) hT ⟨.int i, [x], rfl, rfl, x, [], rfl, h, rfl⟩
theorem it_enL {k m : Nat} (hk : k < n0) : ItOK W H0 ρ0 n0 (.dyn m (enG k)) (Ite W.K (ρ0 k)) := fun i H ρ st s => by
  unfold enG
  cases e : lstAt st k with
  | none => trivial
  | some xs =>
    obtain ⟨vs, q, hv⟩ := s.rs.seq e
    rw [s.agr k hk] at q
    dsimp only
    cases ex : xs[i]? with
    | none => exact ⟨vs, q, by rw [← hv.length]; exact List.getElem?_eq_none_iff.mp ex⟩
    | some p =>
      obtain ⟨v, e1, rv⟩ := hv.get ex
      refine ⟨⟨vs, v, q, e1⟩, fun x H' ⟨T, y, e2, hT, e3, e4⟩ => ?_⟩
      have e5 := e4 vs q
      rw [e1] at e5
      cases e5
      subst e2 e3
      exact ⟨.newT s.rs hT, rv_pair hT rv⟩
theorem it_en {ps : List PV} {J0 : It} (h : ItOK W H0 ρ0 n0 (.vals ps) J0) (hq : ∀ i H x H', J0.yld i H x H' → H' = H) : ItOK W H0 ρ0 n0 (.vals (enV 0 ps)) (Ien J0) := fun i H ρ st s => by
  obtain ⟨h1, h2⟩ := h i H ρ st s
  refine ⟨fun p e => ?_, fun e => h2 (by rw [enV_len] at e; exact e)⟩
  rw [enV_get] at e
  cases ex : ps[i]? with
  | none =>
    rw [ex] at e
    cases e
  | some p' =>
    rw [ex] at e
    cases e
    obtain ⟨h3, h4⟩ := h1 p' ex
    refine ⟨h3, fun x H' ⟨T, y, e2, hT, e3, e4⟩ => ?_⟩
    obtain ⟨_, rv⟩ := h4 y H e4
    subst e2 e3
    refine ⟨.newT s.rs hT, ?_⟩
    rw [Int.zero_add]
    exact rv_pair hT rv
theorem it_tup1 {a : Addr} {ps : List PV} {vs : List V} (hs : SqT W.K H0 a vs) (hv : RVs W H0 ρ0 n0 ps vs) : ItOK W H0 ρ0 n0 (.vals ps) (Itt1 W.K a) := fun i H ρ st s =>
  ⟨(it_tup hs hv i H ρ st s).1, fun e => ⟨vs, s.ext.sqT hs, by rw [← hv.length]; exact e.symm⟩⟩
theorem it_str1 {xs : List Nat} : ItOK W H0 ρ0 n0 (.vals (xs.map fun c => .str [c])) (Its1 ⟨xs.toArray⟩) := fun i H ρ st s =>
  ⟨(it_str i H ρ st s).1, fun e => by
    show xs.toArray.size = i
    rw [e, List.length_map, List.size_toArray]⟩
end
section
variable {X : Cx} {J : Jx} {e : Expr} {dl : DL} {elts : List Expr} {kk : Nat} {p pos tpos : Pos}
theorem xi_enum (J2 : XJ X J) (hg : Gl X "enumerate") (hm : X.mg "enumerate" = none) (ha : PA X [e] (rdL J dl)) (hs : starEach [e] X.env = [(false, eval e X.env)] := by rfl) : PI X (.Tuple elts kk tpos) (.Call (.Name "enumerate" p) [e] [] pos) (rdI J (dRng fEn dl)) := PI.byCases fun σ H R h => by
  obtain ⟨ρ, th, env, st, S, g⟩ := h
  unfold dRng at g
  cases r : dl th env st with
  | bad =>
    rw [r] at g
    exact g.elim
  | exc x st' =>
    refine ⟨_, pi_enum hg hm ha hs, ρ, th, env, st, S, ?_⟩
    rw [r] at g ⊢
    exact g
  | ok v st' =>
    rw [r] at g
    replace g : gR J.W (fun H ρ n p x => ItOK J.W H ρ n p x) (fun c dd H' => J.Wx c dd σ H') (fEn v st') H ρ st.length R := g
    unfold fEn at g
    split at g
    · split at g
      · rename_i k xs ex
        refine ⟨_, pi_enum hg hm ha hs, ρ, th, env, st, S, ?_⟩
        rw [r]
        intro H' ρ' x s rv
        obtain ⟨y, rfl, hk, rfl⟩ := rv.one
        obtain ⟨vs, q, _⟩ := s.rs.seq ex
        exact ⟨_, vs, rfl, by rw [← J2.K]; exact q, by rw [← J2.K]; exact g H' ρ' _ s (it_enL hk)⟩
      · exact g.elim
    · refine ⟨_, pi_enT hg hm ha hs, ρ, th, env, st, S, ?_⟩
      rw [r]
      intro H' ρ' x s rv
      obtain ⟨y, rfl, a, vs, rfl, q, hv⟩ := rv.one
      exact ⟨_, vs, rfl, by rw [← J2.K]; exact q, by rw [← J2.K]; exact g H' ρ' _ s (it_en (it_tup1 q hv) fun i H x H' h => h.1)⟩
    · refine ⟨_, pi_enS hg hm ha hs, ρ, th, env, st, S, ?_⟩
      rw [r]
      intro H' ρ' x s rv
      obtain ⟨y, rfl, ry⟩ := rv.one
      exact ⟨_, by rw [ry], g H' ρ' _ s (it_en it_str1 fun i H x H' h => h.1)⟩
    · exact g.elim
end
end Mi
end
section
set_option maxRecDepth 100000
set_option maxHeartbeats 4000000
namespace Mi
open PySem PySem.Spec PyProof.Rows L2
/-! ### defs -/
def env0 (n : Nat) (ps : List PV) : Env := ps.map some ++ List.replicate (n - ps.length) none
def RS.fin : RS → Res PV
  | .rt v st => .ok v st
  | .nx _ st => .ok .non st
  | .exc e _ st => .exc e st
  | _ => .bad
def noTh : Th := fun _ => .bad
/-- a def with n slots -/
def mkF (n : Nat) (d : DS) : Fn := fun ps st => (d noTh (env0 n ps) st).fin
/-- a def's promise -/
def spN (W : Wd) (m : Nat) (F : Fn) : Sp := fun vs H Q E => ∃ ρ ps st, ps.length = m ∧ RSt W H ρ st ∧ RVs W H ρ st.length ps vs ∧ gE W E (F ps st) H ρ st.length Q
/-- F may be taken for G -/
def Ref (F G : Fn) : Prop := ∀ (W : Wd) (E : XK) (H : Hp) (ρ : Nat → Addr) (st : Sto) (ps : List PV) (vs : List V) (Q : VK), RSt W H ρ st → RVs W H ρ st.length ps vs → gE W E (F ps st) H ρ st.length Q → gE W E (G ps st) H ρ st.length Q
theorem Ref.refl (F : Fn) : Ref F F := fun _ _ _ _ _ _ _ _ _ _ h => h
abbrev noTr : TR := fun _ _ _ _ => True
theorem noTr_stays (W : Wd) : TR.Stays W noTr := fun _ _ _ _ _ _ _ _ _ => trivial
theorem REnv.start {W : Wd} {H : Hp} {ρ : Nat → Addr} {n : Nat} {N : List Str} {ps : List PV} {vs : List V} (h : RVs W H ρ n ps vs) : REnv W H ρ n (env0 N.length ps) (L2.start N vs) := by
  have hl := h.length
  refine ⟨by unfold env0 L2.start; simp [hl], fun i p e => ?_⟩
  unfold env0 at e
  unfold L2.start
  by_cases hi : i < ps.length
  · rw [List.getElem?_append_left (by simpa using hi)] at e
    rw [List.getElem?_append_left (by simpa [← hl] using hi)]
    rw [List.getElem?_map] at e ⊢
    cases ex : ps[i]? with
    | none =>
      rw [ex] at e
      cases e
    | some q =>
      rw [ex] at e
      cases e
      obtain ⟨v, h1, h2⟩ := h.get ex
      exact ⟨v, by rw [h1]; rfl, h2⟩
  · rw [List.getElem?_append_right (by simpa using hi)] at e
    rw [List.getElem?_replicate] at e
    split at e <;> cases e
section
variable {P : Program} {w : World} {K : PySem.W.Frag} {mg : Str → Option Value} {base : Heap} {x qual : Str} {params : Arguments} {body : List Stmt} {scope : Scope} {f : Addr} {fd : FuncData}
/-- the context of a def's body -/
abbrev cxB (P : Program) (w : World) (K : PySem.W.Frag) (mg : Str → Option Value) (base : Heap) (N : List Str) (qual : Str) (scope : Scope) (f : Addr) (cdv : Value) (A : Around) (outer : List PySem.Env) (s : Shared) (H : Hp) (E : XK) : Cx := cxOf (L2.CX P w) P w K mg base N qual scope f cdv A outer s H E
abbrev jxB (W : Wd) (E : XK) : Jx := ⟨W, fun c d _ H => E c d H, noTr⟩
theorem cx_ok {W : Wd} {N ps : List Str} (S : FnScope N ps scope) (hK : W.K = K) (hc : (cxB P w K mg base N qual scope f cdv A outer s H E).calm = true) (hg : A.guards = some []) : XK2 (cxB P w K mg base N qual scope f cdv A outer s H E) (jxB W E) :=
  ⟨⟨hK, noTr_stays W, takes_of rfl rfl rfl rfl⟩, hc, S.nd, passes_of rfl, hg⟩
/-- a def's promise at states in which no repr is under way -/
structure FnG (P : Program) (w : World) (K : PySem.W.Frag) (mg : Str → Option Value) (base : Heap) (k : Nat) (f : Addr) (fd : FuncData) (ps : List Str) (sp : Sp) : Prop where
  len : ∀ vs H Q E, sp vs H Q E → vs.length = ps.length
  run : ∀ (A : Around) (outer : List PySem.Env) (s : Shared) (H : Hp) (args : Args) (us : List Value) (vs : List V) (Q : VK) (E : XK), Room k A → A.guards = some [] → Env0 P w K mg base A outer s H → BindsTo s fd args (ps.zip us) → Vals vs us → sp vs H Q E →
    codeAny (model P w) A (.call (.ref f) args) (CR (L2.CX P w) outer P w H s Q E) s
theorem FnG.mono {j k : Nat} {ps : List Str} {sp : Sp} (F : FnG P w K mg base j f fd ps sp) (h : j ≤ k) : FnG P w K mg base k f fd ps sp :=
  ⟨F.len, fun A outer s H args us vs Q E hr => F.run A outer s H args us vs Q E (hr.mono h)⟩
theorem fn_ok {W : Wd} {N ps : List Str} {k : Nat} {d : DS} {G : Fn} (hK : W.K = K) (F : FunD K x qual params body scope [] [] f fd) (S : FnScope N ps scope) (hR : Ref G (mkF N.length d))
    (hb : ∀ (cdv : Value) (A : Around) (outer : List PySem.Env) (s : Shared) (H : Hp) (E : XK), Room k (A.deeper (envOfC qual scope s.heap.objs.size f cdv)) → XK2 (cxB P w K mg base N qual scope f cdv A outer s H E) (jxB W E) → PSs (cxB P w K mg base N qual scope f cdv A outer s H E) body (rdS (jxB W E) d)) :
    FnG P w K mg base (k + 1) f fd ps (spN W ps.length G) := by
  obtain ⟨oc, od, dV, kV, doc, pm, an, cdv, ct, osl, rfl, lk, hcd, _, _⟩ := F.ex
  have len : ∀ vs H Q E, spN W ps.length G vs H Q E → vs.length = ps.length := fun vs H Q E ⟨ρ, qs, st, h1, _, h2, _⟩ => by rw [← h2.length, h1]
  refine ⟨len, fun A outer s H args us vs Q E hr hg e0 hbi hv h => LamX.run_ofS lk hcd S hr e0 hbi hv (len _ _ _ _ h) fun hr' => ⟨_, hb cdv A outer s H E hr' (cx_ok S hK rfl hg), ?_⟩⟩
  obtain ⟨ρ, qs, st, h1, h2, h3, g⟩ := h
  replace g := hR W E H ρ st qs vs Q h2 h3 g
  refine ⟨ρ, noTh, env0 N.length qs, st, ⟨h2, REnv.start h3, trivial⟩, ?_⟩
  unfold mkF at g
  cases r : d noTh (env0 N.length qs) st with
  | nx env st1 =>
    rw [r] at g
    exact fun H' ρ' σ' s' _ => g H' ρ' .non s' rfl
  | rt v st1 =>
    rw [r] at g
    exact g
  | bk env st1 =>
    rw [r] at g
    exact g.elim
  | ct env st1 =>
    rw [r] at g
    exact g.elim
  | exc e env st1 =>
    rw [r] at g
    exact fun H' ρ' σ' c dd s' _ rx => g H' ρ' c dd s' rx
  | bad =>
    rw [r] at g
    exact g.elim
end
/-- a def that may be called -/
structure Cal (P : Program) (w : World) (mg : Str → Option Value) (base : Heap) (k : Nat) (x : Str) (n : Nat) (W : Wd) (F : Fn) : Prop where
  ex : ∃ (f : Addr) (fd : FuncData) (ps : List Str), ps.length = n ∧ FnG P w W.K mg base k f fd ps (spN W n F) ∧ mg x = some (.ref f) ∧ PySem.W.keepIn W.K (.ref f) = true ∧ Binds W.K fd ps []
theorem Cal.mono {P : Program} {w : World} {mg : Str → Option Value} {base : Heap} {j k : Nat} {x : Str} {n : Nat} {W : Wd} {F : Fn} (C : Cal P w mg base j x n W F) (h : j ≤ k) : Cal P w mg base k x n W F := by
  obtain ⟨f, fd, ps, h1, h2, h3⟩ := C.ex
  exact ⟨f, fd, ps, h1, h2.mono h, h3⟩
/-- a call of a def with n parameters -/
def dCall (n : Nat) (F : Fn) (a : DL) : DE := fun th env st => (a th env st).bind fun xs st1 => if Nat.beq xs.length n = true then F xs st1 else .bad
section
variable {X : Cx} {J : Jx} {k n : Nat} {F : Fn} {x : Str} {p pos : Pos} {e : Expr} {es : List Expr} {dl : DL}
theorem run_G {f : Addr} {fd : FuncData} {ps : List Str} {sp : Sp} {E : L2.St → XK} {pins : List (Addr × Obj)} {σ : L2.St} {H : Hp} {s : Shared} {Q : VK} {us : List Value} {vs : List V} (F : FnG X.prog X.w X.K X.mg X.base k f fd ps sp) (hr : Room k X.A) (hgd : X.A.guards = some [])
    (hb : Binds X.K fd ps []) (hx : ∀ σ, PassesAt (L2.CX X.prog X.w) X σ (E σ)) (I : Inv X pins σ H s) (r : Vals vs us) (h : sp vs H Q (E σ)) : wpAny (model X.prog X.w) X.A (call (.ref f) us) (EP X pins σ Q) X.xe s := by
  have hl : us.length = ps.length := by rw [← r.length]; exact F.len _ _ _ _ h
  have hbi := hb s us I.kIn (by rw [List.append_nil]; exact hl)
  rw [List.append_nil] at hbi
  refine wpAny_call (codeAny_mono (F.run X.A X.stack s H ⟨us, []⟩ us vs Q (E σ) hr hgd I.env0 hbi r h) fun res s' hq => ?_)
  match res, hq with
  | .error e, hq => exact hx σ pins H s e s' I hq
  | .ok (.ret u), hq => exact I.after hq
def tCallG (sp : Sp) (E : L2.St → XK) (t : TA) : TE := fun σ H Q => t σ H fun vs H1 => sp vs H1 Q (E σ)
theorem pe_callG {f : Addr} {fd : FuncData} {ps : List Str} {sp : Sp} {E : L2.St → XK} {t : TA} (F : FnG X.prog X.w X.K X.mg X.base k f fd ps sp) (hr : Room k X.A) (hgd : X.A.guards = some []) (hg : Gl X x) (hm : X.mg x = some (.ref f)) (hk : PySem.W.keepIn X.K (.ref f) = true) (hb : Binds X.K fd ps [])
    (hx : ∀ σ, PassesAt (L2.CX X.prog X.w) X σ (E σ)) (ha : PA X (e :: es) t) (hdb : (x == ("__debug__" : Str)) = false) (he : starEach (e :: es) X.env = (false, eval e X.env) :: starEach es X.env) (hpl : (backTo pos (starEach es X.env)).any (·.1) = false) :
    PE X (.Call (.Name x p) (e :: es) [] pos) (tCallG sp E t) :=
  ⟨fun pins s σ H Q I h => wpAny_Call_Name_kw (ld_glob I hg hm (PySem.W.callWith_K (h₀ := X.base) I.ok.mod.kin hk (thn (ha.run pos pins s σ H _ I h) fun us s1 ⟨vs, H1, I1, r, q⟩ => ⟨I1.kIn, run_G F hr hgd hb hx I1 r q⟩) he hpl) hdb)⟩
theorem pe_callG0 {f : Addr} {fd : FuncData} {ps : List Str} {sp : Sp} {E : L2.St → XK} (F : FnG X.prog X.w X.K X.mg X.base k f fd ps sp) (hr : Room k X.A) (hgd : X.A.guards = some []) (hg : Gl X x) (hm : X.mg x = some (.ref f)) (hk : PySem.W.keepIn X.K (.ref f) = true) (hb : Binds X.K fd ps [])
    (hx : ∀ σ, PassesAt (L2.CX X.prog X.w) X σ (E σ)) (hdb : (x == ("__debug__" : Str)) = false) : PE X (.Call (.Name x p) [] [] pos) (fun σ H Q => sp [] H Q (E σ)) :=
  ⟨fun pins s σ H Q I h => wpAny_Call_Name_kw (ld_glob I hg hm (PySem.W.callWith_K0 I.kIn hk (run_G F hr hgd hb hx I .nil h)) hdb)⟩
theorem xe_call (J2 : XK2 X J) (C : Cal X.prog X.w X.mg X.base k x n J.W F) (hr : Room k X.A) (hg : Gl X x) (ha : PA X (e :: es) (rdL J dl)) (hdb : (x == ("__debug__" : Str)) = false := by decide) (he : starEach (e :: es) X.env = (false, eval e X.env) :: starEach es X.env := by rfl) (hpl : (backTo pos (starEach es X.env)).any (·.1) = false := by rfl) :
    PE X (.Call (.Name x p) (e :: es) [] pos) (rdE J (dCall n F dl)) := by
  obtain ⟨f, fd, ps, h1, h2, h3, h4, h5⟩ := C.ex
  rw [J2.K] at h2 h4 h5
  refine PE.imp (pe_callG h2 hr J2.gd hg h3 h4 h5 (passAt J2.tk) ha hdb he hpl) fun σ H Q h => rd_bind J2.st h fun ρ th env st v xs H1 S rv g => ?_
  split at g
  · rename_i hl
    exact ⟨ρ, v, st, Nat.eq_of_beq_eq_true hl, S.rs, rv, g⟩
  · exact g.elim
theorem xe_call0 (J2 : XK2 X J) (C : Cal X.prog X.w X.mg X.base k x 0 J.W F) (hr : Room k X.A) (hg : Gl X x) (hdb : (x == ("__debug__" : Str)) = false := by decide) : PE X (.Call (.Name x p) [] [] pos) (rdE J (dCall 0 F dNil)) := by
  obtain ⟨f, fd, ps, h1, h2, h3, h4, h5⟩ := C.ex
  rw [J2.K] at h2 h4 h5
  refine PE.imp (pe_callG0 h2 hr J2.gd hg h3 h4 h5 (passAt J2.tk) hdb) fun σ H Q h => ?_
  obtain ⟨ρ, th, env, st, S, g⟩ := h
  exact ⟨ρ, [], st, rfl, S.rs, rfl, g⟩
/-! ### names that hold defs -/
/-- a table of defs by number: parameters, what they do -/
abbrev FTab := Nat → Option (Nat × Fn)
def dCallV (T : FTab) (i : Nat) (a : DL) : DE := fun th env st => match env[i]? with
  | some (some (.fn j)) => match T j with
    | some (n, F) => dCall n F a th env st
    | none => .bad
  | _ => .bad
/-- the table's defs may be called -/
def TabOk (P : Program) (w : World) (mg : Str → Option Value) (base : Heap) (k : Nat) (W : Wd) (T : FTab) : Prop := ∀ j n F, T j = some (n, F) → ∃ (f : Addr) (fd : FuncData) (ps : List Str), W.fa j = some f ∧ ps.length = n ∧ FnG P w W.K mg base k f fd ps (spN W n F) ∧ PySem.W.keepIn W.K (.ref f) = true ∧ Binds W.K fd ps []
theorem PE.byCases {e : Expr} {w' : TE} (k : ∀ σ H R, w' σ H R → ∃ w : TE, PE X e w ∧ w σ H R) : PE X e w' := ⟨fun pins s σ H R I q => by
  obtain ⟨w, h, q⟩ := k σ H R q
  exact h.run pins s σ H R I q⟩
def tCallLS (i : Nat) (f : Addr) (sp : Sp) (E : L2.St → XK) (t : TA) : TE := fun σ H Q => σ[i]? = some (some (.ref f)) ∧ t σ H fun vs H1 => sp vs H1 Q (E σ)
theorem pe_callLS {i : Nat} {f : Addr} {fd : FuncData} {ps : List Str} {sp : Sp} {E : L2.St → XK} {t : TA} (F : FnG X.prog X.w X.K X.mg X.base k f fd ps sp) (hr : Room k X.A) (hgd : X.A.guards = some []) (hN : X.N[i]? = some x) (hv : Vis X.env.scope x) (hk : PySem.W.keepIn X.K (.ref f) = true) (hb : Binds X.K fd ps [])
    (hx : ∀ σ, PassesAt (L2.CX X.prog X.w) X σ (E σ)) (ha : PA X (e :: es) t) (hdb : (x == ("__debug__" : Str)) = false := by decide) (hcd : (x == ("__classdict__" : Str)) = false := by decide)
    (he : starEach (e :: es) X.env = (false, eval e X.env) :: starEach es X.env := by rfl) (hpl : (backTo pos (starEach es X.env)).any (·.1) = false := by rfl) : PE X (.Call (.Name x p) (e :: es) [] pos) (tCallLS i f sp E t) := by
  refine ⟨fun pins s σ H Q I ⟨hs, ht⟩ => wpAny_Call_Name_kw (thn ((pe_var (pos := p) hN hv hdb hcd).run pins s σ H (fun v H1 => v = .ref f ∧ H1 = H) I ⟨.ref f, hs, rfl, rfl⟩) fun u s1 ⟨v, H1, I1, r1, q1⟩ => ?_)⟩
  obtain ⟨e1, e2⟩ := q1
  subst e1 e2
  cases r1
  exact PySem.W.callWith_K (h₀ := X.base) I.ok.mod.kin hk (thn (ha.run pos pins s1 σ _ _ I1 ht) fun us s2 ⟨vs, H2, I2, r, q⟩ => ⟨I2.kIn, run_G F hr hgd hb hx I2 r q⟩) he hpl
theorem xe_callV {T : FTab} {i : Nat} (J2 : XK2 X J) (C : TabOk X.prog X.w X.mg X.base k J.W T) (hr : Room k X.A) (hN : X.N[i]? = some x) (hv : Vis X.env.scope x) (ha : PA X (e :: es) (rdL J dl)) (hdb : (x == ("__debug__" : Str)) = false := by decide) (hcd : (x == ("__classdict__" : Str)) = false := by decide)
    (he : starEach (e :: es) X.env = (false, eval e X.env) :: starEach es X.env := by rfl) (hpl : (backTo pos (starEach es X.env)).any (·.1) = false := by rfl) : PE X (.Call (.Name x p) (e :: es) [] pos) (rdE J (dCallV T i dl)) := PE.byCases fun σ H Q h => by
  obtain ⟨ρ, th, env, st, S, g⟩ := h
  unfold dCallV at g
  split at g
  · rename_i j ej
    split at g
    · rename_i m F et
      obtain ⟨f, fd, ps, h0, h1, h2, h4, h5⟩ := C j m F et
      rw [J2.K] at h2 h4 h5
      obtain ⟨v, hv1, a, hv2, hv3⟩ := S.env.get i _ ej
      rw [h0] at hv2
      cases hv2
      subst hv3
      refine ⟨_, pe_callLS h2 hr J2.gd hN hv h4 h5 (passAt J2.tk) ha hdb hcd he hpl, hv1, ?_⟩
      refine rd_bind (f := fun xs _ _ st1 => if Nat.beq xs.length m = true then F xs st1 else .bad) J2.st ⟨ρ, th, env, st, S, g⟩ fun ρ th env st v xs H1 S rv g => ?_
      split at g
      · rename_i hl
        exact ⟨ρ, v, st, Nat.eq_of_beq_eq_true hl, S.rs, rv, g⟩
      · exact g.elim
    · exact g.elim
  · exact g.elim
end
end Mi
end
section
set_option maxRecDepth 100000
set_option maxHeartbeats 4000000
namespace Mi
open PySem PySem.Spec PyProof.Rows L2 LamX
/-! ### the law's call: no repr is under way there -/
/-- what is tracked at the start: the script (unless it is of the frame K), the tables -/
def hp0 (K : PySem.W.Frag) (a : Addr) (ob : Obj) (xs : List V) (ts : List Addr) : Hp := fun b => if b ∈ ts then some (.tbl #[]) else if b = a ∧ K.lookup a = none then some (.frz ob (.lst xs)) else none
section
variable {K : PySem.W.Frag} {a b : Addr} {ob : Obj} {xs : List V} {ts : List Addr}
theorem hp0_tab (h : b ∈ ts) : hp0 K a ob xs ts b = some (.tbl #[]) := if_pos h
theorem hp0_own (h : a ∉ ts) (k : K.lookup a = none) : hp0 K a ob xs ts a = some (.frz ob (.lst xs)) := (if_neg h).trans (if_pos ⟨rfl, k⟩)
theorem hp0_out (h : b ∉ ts) (k : ¬ (b = a ∧ K.lookup a = none)) : hp0 K a ob xs ts b = none := (if_neg h).trans (if_neg k)
theorem hp0_cases {o : HO} (e : hp0 K a ob xs ts b = some o) : (b ∈ ts ∧ o = .tbl #[]) ∨ (b = a ∧ K.lookup a = none ∧ o = .frz ob (.lst xs)) := by
  unfold hp0 at e
  split at e
  · rename_i h
    cases e
    exact .inl ⟨h, rfl⟩
  · split at e
    · rename_i h
      cases e
      exact .inr ⟨h.1, h.2, rfl⟩
    · cases e
end
theorem law_callG {P : Program} {w : World} {K : PySem.W.Frag} {mg mb : Str → Option Value} {k : Nat} {fa a : Addr} {cs : List (Addr × Addr)} {fd : FuncData} {x : Str} {sp : Sp} {s : Shared} {us : List Value} {ns : List Int}
    (KX : K.In s.heap) (hns : s.heap.Ns mainGlobals mg) (hbn : s.heap.Ns builtinsNs mb) (hbb : ∀ x : Str, x ≠ "__name__" → mb x = bootBuiltins x) (hlim : s.heap.NoLimit) (hgens : s.gens = #[])
    (hT : ∀ p ∈ cs, s.heap.get? p.2 = some { cls := .none, data := .fields #[] }) (nT : ∀ p ∈ cs, K.lookup p.2 = none) (C : ∀ p ∈ cs, PySem.W.CodeHd s.heap p.1 p.2)
    (hbm : ∃ (bm : Addr) (ob : Obj), mg "__builtins__" = some (.ref bm) ∧ bm ≠ builtinsNs ∧ s.heap.get? bm = some ob ∧ ob.cls = .type "module" ∧ ob.dict = some builtinsNs ∧ ob.data = .plain)
    (ha : s.heap.get? a = some { cls := .type "list", data := .seq us.toArray }) (hi : IntsAre us ns) (hl : ns.length ≤ sizeLine) (hr : Room k callerA)
    (F : ∀ base : Heap, K.In base → base.Ns mainGlobals mg → (∀ p ∈ cs, TabB base mg p.1 p.2) → FnG P w K mg base k fa fd [x] sp) (hbind : ∀ (s : Shared) (u : Value), BindsTo s fd ⟨[u], []⟩ [(x, u)])
    (hsp : ∀ H : Hp, (∀ p ∈ cs, H p.2 = some (.tbl #[])) → FzL K H a (ns.map V.int) → sp [.ref a] H (fun v _ => v = .bl true) fun _ _ _ => False) :
    codeAny (model P w) callerA (.call (.ref fa) ⟨[.ref a], []⟩) (fun r s' => r = .ok (.ret (.bool true)) ∧ OldK s.heap s'.heap ∧ s'.os = s.os ∧ AllBare s'.gens) s := by
  have rv := vals_ints hi
  have ul := hi.length
  have tabO : ∀ b ∈ cs.map (·.2), s.heap.get? b = some { cls := .none, data := .fields #[] } ∧ K.lookup b = none := fun b hb => by
    obtain ⟨p, hp, rfl⟩ := List.mem_map.mp hb
    exact ⟨hT p hp, nT p hp⟩
  have aNo : a ∉ cs.map (·.2) := fun z => by
    have q := (tabO a z).1
    rw [ha] at q
    exact absurd (congrArg Obj.data (Option.some.inj q)) (fun z => nomatch z)
  obtain ⟨H, eH⟩ : ∃ H, H = hp0 K a { cls := .type "list", data := .seq us.toArray } (ns.map V.int) (cs.map (·.2)) := ⟨_, rfl⟩
  have Hcase : ∀ {b : Addr} {o : HO}, H b = some o → (b ∈ cs.map (·.2) ∧ o = .tbl #[]) ∨ (b = a ∧ K.lookup a = none ∧ o = .frz { cls := .type "list", data := .seq us.toArray } (.lst (ns.map V.int))) := fun {b o} e => hp0_cases (by rw [← eH]; exact e)
  have Htab : ∀ p ∈ cs, H p.2 = some (.tbl #[]) := fun p hp => by
    rw [eH]
    exact hp0_tab (List.mem_map.mpr ⟨p, hp, rfl⟩)
  have listOk : ObjOk P w H s.heap a (.frz { cls := .type "list", data := .seq us.toArray } (.lst (ns.map V.int))) := ⟨ha, by rw [List.length_map]; exact hl, us, _, rv, ha⟩
  have fz : FzL K H a (ns.map V.int) := by
    cases hk : K.lookup a with
    | none => exact .inl ⟨_, by rw [eH]; exact hp0_own aNo hk⟩
    | some o =>
      have e := KX a o hk
      rw [ha] at e
      cases e
      exact .inr ⟨_, us.toArray, _, hk, rfl, rfl, rfl, by rw [List.size_toArray, ul]; exact hl, by simpa using rv⟩
  have hok : HOk P w H s.heap := fun b o e => by
    rcases Hcase e with ⟨h, rfl⟩ | ⟨rfl, _, rfl⟩
    · exact (tabO b h).1
    · exact listOk
  -- what is neither a list nor a table isn't tracked
  have free : ∀ {b : Addr} {o : Obj}, s.heap.get? b = some o → (∀ vs n, o.data ≠ .seq vs n) → o.data ≠ .fields #[] → H b = none := fun {b o} e h1 h2 => by
    cases q : H b with
    | none => rfl
    | some u =>
      rcases Hcase q with ⟨h, _⟩ | ⟨rfl, _, _⟩
      · have := (tabO b h).1
        rw [e] at this
        cases this
        exact absurd rfl h2
      · rw [ha] at e
        cases e
        exact absurd rfl (h1 _ _)
  have ns0 : ∀ {b : Addr} {m : Str → Option Value}, s.heap.Ns b m → (hidT s.heap H).Ns b m := fun ⟨o, es, ep, e, d, r⟩ =>
    ⟨o, es, ep, hidT_get e (free e (fun vs n z => by rw [d] at z; cases z) fun z => by rw [d] at z; cases z), d, r⟩
  have K0 : K.In (hidT s.heap H) := fun b o e => hidT_get (KX b o e) (by
    cases q : H b with
    | none => rfl
    | some u =>
      rcases Hcase q with ⟨h, _⟩ | ⟨rfl, h, _⟩
      · rw [(tabO b h).2] at e
        cases e
      · rw [h] at e
        cases e)
  have M0 : L2.Mod K mg (hidT s.heap H) := ⟨K0, ns0 hns, ⟨mb, ns0 hbn, hbb⟩, let ⟨mc, h1, h2⟩ := hlim; ⟨mc, ns0 h1, h2⟩⟩
  have TB : ∀ p ∈ cs, TabB (hidT s.heap H) mg p.1 p.2 := fun p hp => by
    have tp := hT p hp
    constructor
    · obtain ⟨o, vs, file, tf, flags, tg, inF, text, tt, e1, r1, r2, r3, rest⟩ := C p hp
      refine ⟨o, vs, file, tf, flags, tg, inF, text, tt, hidT_get e1 (free e1 (fun vs n z => by rw [r2] at z; cases z) fun z => ?_), r1, r2, r3, rest⟩
      rw [r2] at z
      cases z
      simp at r3
    · obtain ⟨bm, ob, b1, b2, b3, b4, b5, b6⟩ := hbm
      have ng : bm ≠ mainGlobals := fun z => by
        obtain ⟨o, es, ep, e, d, _⟩ := hns
        rw [z, e] at b3
        cases b3
        rw [d] at b6
        cases b6
      have np : bm ≠ p.2 := fun z => by
        rw [z, tp] at b3
        cases b3
        cases b6
      exact ⟨bm, ob, b1, b2, ng, np, hidT_get b3 (free b3 (fun vs n z => by rw [b6] at z; cases z) fun z => by rw [b6] at z; cases z), b4, b5, b6⟩
    · intro z
      obtain ⟨o, es, ep, e, d, _⟩ := hns
      rw [z, tp] at e
      cases e
      cases d
  have e0 : Env0 P w K mg (hidT s.heap H) callerA [] s H := ⟨rfl, M0, fun b o e => of_hidT e, Nat.le_of_eq (hidT_size _ _), trivial, fun b hb => absurd hb List.not_mem_nil, hok, .of_eq hgens⟩
  refine codeAny_mono ((F _ K0 (ns0 hns) TB).run callerA [] s H ⟨[.ref a], []⟩ [.ref a] [.ref a] _ _ hr rfl e0 (hbind s (.ref a)) (.cons rfl .nil) (hsp H Htab fz)) fun r s' h => ?_
  match r, h with
  | .error e, h =>
    obtain ⟨_, _, _, _, _, _, _, _, _, _, _, _, z⟩ := h
    exact z.elim
  | .ok (.ret u), ⟨v, H', os, bare, un, hok', r', q⟩ =>
    have q : v = .bl true := q
    subst q
    have r' : u = Value.bool true := r'
    subst r'
    have stay : ∀ b o, b ∉ cs.map (·.2) → s.heap.get? b = some o → s'.heap.get? b = some o := fun b o nb e => by
      cases q : H b with
      | none => exact un.keep b o e q List.not_mem_nil List.not_mem_nil
      | some u =>
        rcases Hcase q with ⟨h, _⟩ | ⟨rfl, _, rfl⟩
        · exact absurd h nb
        · have e1 := (hok' b _ (un.frzs b _ _ q)).1
          rw [ha] at e
          cases e
          exact e1
    refine ⟨rfl, ⟨fun b o e => ?_, fun b o e => ?_⟩, os, bare⟩
    · by_cases hb : b ∈ cs.map (·.2)
      · obtain ⟨p, hp, rfl⟩ := List.mem_map.mp hb
        obtain ⟨more, z⟩ := un.tbls p.2 #[] (Htab p hp)
        have e' := hT p hp
        rw [e] at e'
        cases e'
        have z2 := hok' p.2 _ z
        exact .inr (.inl ⟨((C p hp).tab (hT p hp)).isCodeTable, rfl, #[], more, rfl, z2⟩)
      · exact .inl (stay b o hb e)
    · by_cases hb : b ∈ cs.map (·.2)
      · obtain ⟨p, hp, rfl⟩ := List.mem_map.mp hb
        obtain ⟨more, z⟩ := un.tbls p.2 #[] (Htab p hp)
        exact ⟨_, hok' p.2 _ z⟩
      · exact ⟨o, stay b o hb e⟩
/-- what is known of the law's promise at the head's heap -/
def LawG (l : PySem.W.OpenLaw) (w : World) (K : PySem.W.Frag) (k n : Nat) (x : Str) (mg : Str → Option Value) (fa : Addr) (h : Heap) : Prop :=
  ∃ (fd : FuncData) (cs : List (Addr × Addr)) (sp : Sp), (∀ p ∈ cs, h.get? p.2 = some { cls := .none, data := .fields #[] }) ∧ (∀ p ∈ cs, K.lookup p.2 = none) ∧ (∀ p ∈ cs, PySem.W.CodeHd h p.1 p.2) ∧ (∀ (s : Shared) (u : Value), BindsTo s fd ⟨[u], []⟩ [(x, u)]) ∧
    (∀ (H : Hp) (a : Addr) (ns : List Int), ns.length ≤ n → (∀ z ∈ ns, Builtin.Int.intBits z ≤ 1048576) → (∀ p ∈ cs, H p.2 = some (.tbl #[])) → FzL K H a (ns.map V.int) → sp [.ref a] H (fun v _ => v = .bl true) fun _ _ _ => False) ∧
    ∀ base : Heap, K.In base → base.Ns mainGlobals mg → (∀ p ∈ cs, TabB base mg p.1 p.2) → FnG l.prog w K mg base k fa fd [x] sp
theorem walk_G {l : PySem.W.OpenLaw} {n k : Nat} {q : Program} {loose : List Str} {XP : (Str → Option Value) → Heap → Prop} {YP : World → Heap → Prop} {d : DefRec} {x : Str} (hn : l.most = some n) (hn2 : n ≤ sizeLine) (hdf : d.params.defaults = []) (hr : Room k callerA)
    (F : ∀ (w : World) (mg : Str → Option Value) (fa : Addr) (h : Heap), YP w h → h.Ns mainGlobals mg → mg d.name = some (.ref fa) → ∃ K : PySem.W.Frag, K.In h ∧ LawG l w K k n x mg fa h) :
    PySem.W.WalkO q loose XP YP l.row.toRowW d [] (fun f vs => PySem.call f vs) :=
  Att.attach_callB hn hdf fun w s0 s1 mg mb fa o pm cd doc a vs ns G Y ho hd hcd hmg hobj hints hlen hbits hg => by
    obtain ⟨K, KX, fd, cs, sp, h1, h2, h3, h4, h5, h6⟩ := F w mg fa _ Y G.T.g hmg
    exact law_callG KX G.T.g G.T.b G.T.builtins G.T.nolimit hg h1 h2 h3 G.T.bmain hobj hints (Nat.le_trans hlen hn2) hr h6 h4 fun H a1 a2 => h5 H a ns hlen hbits a1 a2
end Mi
end
section
set_option maxRecDepth 100000
set_option maxHeartbeats 4000000
namespace Mi
open PySem PySem.Spec PyProof.Rows L2
abbrev toS (s : List Nat) : Str := ⟨s.toArray⟩
def ofS (r : Str) : List Nat := r.cps.toList
theorem toS_ofS (r : Str) : toS (ofS r) = r := rfl
section
variable {J : Jx}
/-! ### helpers -/
def intsOf : List PV → Option (List Int)
  | [] => some []
  | .int i :: r => match intsOf r with
    | some is => some (i :: is)
    | none => none
  | _ :: _ => none
def blsOf : List PV → Option (List Bool)
  | [] => some []
  | .bl i :: r => match blsOf r with
    | some is => some (i :: is)
    | none => none
  | _ :: _ => none
def strsOf : List PV → Option (List (List Nat))
  | [] => some []
  | .str i :: r => match strsOf r with
    | some is => some (i :: is)
    | none => none
  | _ :: _ => none
variable {W : Wd} {H : Hp} {ρ : Nat → Addr} {n : Nat}
theorem rvs_ints : ∀ {ps : List PV} {is : List Int} {vs : List V}, intsOf ps = some is → RVs W H ρ n ps vs → vs = is.map V.int
  | [], is, vs, e, h => by
    cases e
    exact h
  | p :: ps, is, vs, e, ⟨v, r, e2, h1, h2⟩ => by
    cases p <;> simp only [intsOf] at e <;> try (cases e; done)
    split at e
    · rename_i i _ js ejs
      cases e
      have h1 : v = .int i := h1
      rw [e2, h1, rvs_ints ejs h2] <;> rfl
    · cases e
theorem rvs_bls : ∀ {ps : List PV} {is : List Bool} {vs : List V}, blsOf ps = some is → RVs W H ρ n ps vs → vs = is.map V.bl
  | [], is, vs, e, h => by
    cases e
    exact h
  | p :: ps, is, vs, e, ⟨v, r, e2, h1, h2⟩ => by
    cases p <;> simp only [blsOf] at e <;> try (cases e; done)
    split at e
    · rename_i i _ js ejs
      cases e
      have h1 : v = .bl i := h1
      rw [e2, h1, rvs_bls ejs h2] <;> rfl
    · cases e
theorem rvs_strs : ∀ {ps : List PV} {is : List (List Nat)} {vs : List V}, strsOf ps = some is → RVs W H ρ n ps vs → vs = (is.map toS).map V.str
  | [], is, vs, e, h => by
    cases e
    exact h
  | p :: ps, is, vs, e, ⟨v, r, e2, h1, h2⟩ => by
    cases p <;> simp only [strsOf] at e <;> try (cases e; done)
    split at e
    · rename_i i _ js ejs
      cases e
      have h1 : v = .str (toS i) := h1
      rw [e2, h1, rvs_strs ejs h2] <;> rfl
    · cases e
theorem rvs_of_strs (is : List (List Nat)) : RVs W H ρ n (is.map PV.str) ((is.map toS).map V.str) := by
  induction is with
  | nil => exact rfl
  | cons i is ih => exact ⟨_, _, rfl, rfl, ih⟩
theorem rvs_signs (is : List Nat) : RVs W H ρ n (is.map fun c => PV.str [c]) (is.map fun c => V.str ⟨#[c]⟩) := by
  induction is with
  | nil => exact rfl
  | cons i is ih => exact ⟨_, _, rfl, rfl, ih⟩
theorem rvs_of_ints (is : List Int) : RVs W H ρ n (is.map PV.int) (is.map V.int) := by
  induction is with
  | nil => exact rfl
  | cons i is ih => exact ⟨_, _, rfl, rfl, ih⟩
/-- a sequence: a list of the store, or a tuple -/
def seqOf (st : Sto) : PV → Option (List PV)
  | .ref k => lstAt st k
  | .tup xs => some xs
  | _ => none
theorem seq_ok {st : Sto} {p : PV} {x : V} {ps : List PV} (r : RSt W H ρ st) (h : RV W H ρ st.length p x) (e : seqOf st p = some ps) : ∃ a vs, x = .ref a ∧ (SqL W.K H a vs ∨ SqT W.K H a vs) ∧ RVs W H ρ st.length ps vs := by
  cases p <;> simp only [seqOf] at e <;> try (cases e; done)
  · cases e
    obtain ⟨a, vs, rfl, q, hv⟩ := h
    exact ⟨a, vs, rfl, .inr q, hv⟩
  · obtain ⟨_, rfl⟩ := h
    obtain ⟨vs, q, hv⟩ := r.seq e
    exact ⟨_, vs, rfl, .inl q, hv⟩
/-! ### len, abs, max, min, int -/
def fLen (xs : List PV) (st : Sto) : Res PV := match xs with
  | [.str s] => if szOk s.length = true then .ok (.int s.length) st else .bad
  | [p] => match seqOf st p with
    | some ys => .ok (.int ys.length) st
    | none => .bad
  | _ => .bad
abbrev rLenA (K : PySem.W.Frag) : List V → Hp → VK → Prop := fun xs H Q => ∃ x n, xs = [x] ∧ LenV K x H n ∧ Q (.int n) H
theorem ok_len : CallOK J fLen (rLenA J.W.K) := by
  intro E H ρ st ps xs Q r h g
  unfold fLen at g
  split at g
  · rename_i s
    split at g
    · rename_i hz
      obtain ⟨x, rfl, hx⟩ := h.one
      have hx : x = .str (toS s) := hx
      subst hx
      exact ⟨_, s.length, rfl, ⟨by rw [str_len]; exact szOk_le hz, (str_len s).symm⟩, g H ρ _ (.refl r) rfl⟩
    · exact g.elim
  · split at g
    · rename_i p _ ys e
      obtain ⟨x, rfl, hx⟩ := h.one
      obtain ⟨a, vs, rfl, q, hv⟩ := seq_ok r hx e
      refine ⟨_, ys.length, rfl, ?_, g H ρ _ (.refl r) rfl⟩
      rcases q with q | q
      · exact .inl ⟨vs, q, hv.length⟩
      · exact .inr ⟨vs, q, hv.length⟩
    · exact g.elim
  · exact g.elim
def fInt1 (f : Int → Int) (xs : List PV) (st : Sto) : Res PV := match xs with
  | [.int i] => .ok (.int (f i)) st
  | _ => .bad
def fAbs := fInt1 fun i => if i < 0 then -i else i
theorem ok_int1 {f : Int → Int} : CallOK J (fInt1 f) (fun xs H Q => ∃ i, xs = [.int i] ∧ Q (.int (f i)) H) := by
  intro E H ρ st ps xs Q r h g
  unfold fInt1 at g
  split at g
  · rename_i i
    obtain ⟨x, rfl, hx⟩ := h.one
    have hx : x = .int i := hx
    subst hx
    exact ⟨i, rfl, g H ρ _ (.refl r) rfl⟩
  · exact g.elim
def fInt (xs : List PV) (st : Sto) : Res PV := match xs with
  | [.int i] => .ok (.int i) st
  | [.bl k] => .ok (.int (if k then 1 else 0)) st
  | _ => .bad
abbrev rIntA : List V → Hp → VK → Prop := fun xs H Q => (∃ i, xs = [.int i] ∧ Q (.int i) H) ∨ ∃ k, xs = [.bl k] ∧ Q (.int (if k then 1 else 0)) H
theorem ok_intA : CallOK J fInt rIntA := by
  intro E H ρ st ps xs Q r h g
  unfold fInt at g
  split at g
  · rename_i i
    obtain ⟨x, rfl, hx⟩ := h.one
    have hx : x = .int i := hx
    subst hx
    exact .inl ⟨i, rfl, g H ρ _ (.refl r) rfl⟩
  · rename_i i
    obtain ⟨x, rfl, hx⟩ := h.one
    have hx : x = .bl i := hx
    subst hx
    exact .inr ⟨i, rfl, g H ρ _ (.refl r) rfl⟩
  · exact g.elim
/-- the greatest, the least -/
def maxI : List Int → Option Int
  | [] => none
  | i :: r => match maxI r with
    | some m => some (if i < m then m else i)
    | none => some i
def minI : List Int → Option Int
  | [] => none
  | i :: r => match minI r with
    | some m => some (if m < i then m else i)
    | none => some i
theorem maxI_ok : ∀ {is : List Int} {m : Int}, maxI is = some m → m ∈ is ∧ ∀ y ∈ is, y ≤ m
  | [], _, e => by cases e
  | i :: r, m, e => by
    unfold maxI at e
    split at e
    · rename_i k ek
      obtain ⟨h1, h2⟩ := maxI_ok ek
      cases e
      split
      · rename_i h
        refine ⟨List.mem_cons_of_mem _ h1, fun y hy => ?_⟩
        rcases List.mem_cons.mp hy with rfl | hy
        · omega
        · exact h2 y hy
      · rename_i h
        refine ⟨List.mem_cons_self, fun y hy => ?_⟩
        rcases List.mem_cons.mp hy with rfl | hy
        · omega
        · have := h2 y hy
          omega
    · rename_i ek
      cases e
      cases r with
      | nil => exact ⟨List.mem_cons_self, fun y hy => by have := List.mem_singleton.mp hy; omega⟩
      | cons j r =>
        unfold maxI at ek
        split at ek <;> cases ek
theorem minI_ok : ∀ {is : List Int} {m : Int}, minI is = some m → m ∈ is ∧ ∀ y ∈ is, m ≤ y
  | [], _, e => by cases e
  | i :: r, m, e => by
    unfold minI at e
    split at e
    · rename_i k ek
      obtain ⟨h1, h2⟩ := minI_ok ek
      cases e
      split
      · rename_i h
        refine ⟨List.mem_cons_of_mem _ h1, fun y hy => ?_⟩
        rcases List.mem_cons.mp hy with rfl | hy
        · omega
        · exact h2 y hy
      · rename_i h
        refine ⟨List.mem_cons_self, fun y hy => ?_⟩
        rcases List.mem_cons.mp hy with rfl | hy
        · omega
        · have := h2 y hy
          omega
    · rename_i ek
      cases e
      cases r with
      | nil => exact ⟨List.mem_cons_self, fun y hy => by have := List.mem_singleton.mp hy; omega⟩
      | cons j r =>
        unfold minI at ek
        split at ek <;> cases ek
def fMax (xs : List PV) (st : Sto) : Res PV := match xs with
  | [.int i, .int j] => .ok (.int (if j > i then j else i)) st
  | [.ref k] => match lstAt st k with
    | some ys => match intsOf ys with
      | some is => match maxI is with
        | some m => .ok (.int m) st
        | none => .bad
      | none => .bad
    | none => .bad
  | _ => .bad
def fMin (xs : List PV) (st : Sto) : Res PV := match xs with
  | [.int i, .int j] => .ok (.int (if j < i then j else i)) st
  | [.ref k] => match lstAt st k with
    | some ys => match intsOf ys with
      | some is => match minI is with
        | some m => .ok (.int m) st
        | none => .bad
      | none => .bad
    | none => .bad
  | _ => .bad
def rMaxA (K : PySem.W.Frag) : List V → Hp → VK → Prop := fun xs H Q => (∃ i j, xs = [.int i, .int j] ∧ Q (.int (if j > i then j else i)) H) ∨ rMax K xs H Q
def rMinA (K : PySem.W.Frag) : List V → Hp → VK → Prop := fun xs H Q => (∃ i j, xs = [.int i, .int j] ∧ Q (.int (if j < i then j else i)) H) ∨ rMin K xs H Q
theorem ok_max : CallOK J fMax (rMaxA J.W.K) := by
  intro E H ρ st ps xs Q r h g
  unfold fMax at g
  split at g
  · rename_i i j
    obtain ⟨x, y, rfl, hx, hy⟩ := h.two
    have hx : x = .int i := hx
    have hy : y = .int j := hy
    subst hx hy
    exact .inl ⟨i, j, rfl, g H ρ _ (.refl r) rfl⟩
  · split at g
    · rename_i k ys e1
      split at g
      · rename_i is e2
        split at g
        · rename_i m e3
          obtain ⟨x, rfl, _, rfl⟩ := h.one
          obtain ⟨vs, q, hv⟩ := r.seq e1
          rw [rvs_ints e2 hv] at q
          obtain ⟨m1, m2⟩ := maxI_ok e3
          refine .inr ⟨_, is, rfl, q, List.length_pos_of_mem m1, fun k h1 h2 => ?_⟩
          have ek : k = m := by
            have a1 := m2 k h1
            have a2 := h2 m m1
            omega
          rw [ek]
          exact g H ρ _ (.refl r) rfl
        · exact g.elim
      · exact g.elim
    · exact g.elim
  · exact g.elim
theorem ok_min : CallOK J fMin (rMinA J.W.K) := by
  intro E H ρ st ps xs Q r h g
  unfold fMin at g
  split at g
  · rename_i i j
    obtain ⟨x, y, rfl, hx, hy⟩ := h.two
    have hx : x = .int i := hx
    have hy : y = .int j := hy
    subst hx hy
    exact .inl ⟨i, j, rfl, g H ρ _ (.refl r) rfl⟩
  · split at g
    · rename_i k ys e1
      split at g
      · rename_i is e2
        split at g
        · rename_i m e3
          obtain ⟨x, rfl, _, rfl⟩ := h.one
          obtain ⟨vs, q, hv⟩ := r.seq e1
          rw [rvs_ints e2 hv] at q
          obtain ⟨m1, m2⟩ := minI_ok e3
          refine .inr ⟨_, is, rfl, q, List.length_pos_of_mem m1, fun k h1 h2 => ?_⟩
          have ek : k = m := by
            have a1 := m2 k h1
            have a2 := h2 m m1
            omega
          rw [ek]
          exact g H ρ _ (.refl r) rfl
        · exact g.elim
      · exact g.elim
    · exact g.elim
  · exact g.elim
/-! ### sum, all, any -/
def fSum (xs : List PV) (st : Sto) : Res PV := match xs with
  | [.ref k] => match lstAt st k with
    | some ys => match intsOf ys with
      | some is => .ok (.int is.sum) st
      | none => .bad
    | none => .bad
  | _ => .bad
theorem ok_sum : CallOK J fSum (rSum J.W.K) := by
  intro E H ρ st ps xs Q r h g
  unfold fSum at g
  split at g
  · split at g
    · rename_i k ys e1
      split at g
      · rename_i is e2
        obtain ⟨x, rfl, _, rfl⟩ := h.one
        obtain ⟨vs, q, hv⟩ := r.seq e1
        rw [rvs_ints e2 hv] at q
        exact ⟨_, is, rfl, q, g H ρ _ (.refl r) rfl⟩
      · exact g.elim
    · exact g.elim
  · exact g.elim
def fBls (f : List Bool → Bool) (xs : List PV) (st : Sto) : Res PV := match xs with
  | [.ref k] => match lstAt st k with
    | some ys => match blsOf ys with
      | some is => .ok (.bl (f is)) st
      | none => .bad
    | none => .bad
  | _ => .bad
def fAll := fBls fun bs => bs.all id
def fAny := fBls fun bs => bs.any id
theorem ok_bls {f : List Bool → Bool} : CallOK J (fBls f) (fun vs H Q => ∃ (a : Addr) (bs : List Bool), vs = [V.ref a] ∧ SqL J.W.K H a (bs.map V.bl) ∧ Q (.bl (f bs)) H) := by
  intro E H ρ st ps xs Q r h g
  unfold fBls at g
  split at g
  · split at g
    · rename_i k ys e1
      split at g
      · rename_i is e2
        obtain ⟨x, rfl, _, rfl⟩ := h.one
        obtain ⟨vs, q, hv⟩ := r.seq e1
        rw [rvs_bls e2 hv] at q
        exact ⟨_, is, rfl, q, g H ρ _ (.refl r) rfl⟩
      · exact g.elim
    · exact g.elim
  · exact g.elim
/-! ### list, tuple -/
def fTuple (xs : List PV) (st : Sto) : Res PV := match xs with
  | [p] => match seqOf st p with
    | some ys => .ok (.tup ys) st
    | none => .bad
  | _ => .bad
abbrev rTupA (K : PySem.W.Frag) : List V → Hp → VK → Prop := fun xs H Q => ∃ p ys, xs = [.ref p] ∧ ((SqL K H p ys ∧ ∀ l, H l = none → Q (.ref l) (upd H l (.tup ys))) ∨ (SqT K H p ys ∧ Q (.ref p) H))
theorem ok_tupleA : CallOK J fTuple (rTupA J.W.K) := by
  intro E H ρ st ps xs Q r h g
  unfold fTuple at g
  split at g
  · split at g
    · rename_i p ys e
      obtain ⟨x, rfl, hx⟩ := h.one
      obtain ⟨a, vs, rfl, q, hv⟩ := seq_ok r hx e
      refine ⟨a, vs, rfl, ?_⟩
      rcases q with q | q
      · exact .inl ⟨q, fun l hl => g _ ρ _ (.newT r hl) (rv_newT hl hv)⟩
      · exact .inr ⟨q, g H ρ _ (.refl r) ⟨a, vs, rfl, q, hv⟩⟩
    · exact g.elim
  · exact g.elim
def fList (xs : List PV) (st : Sto) : Res PV := match xs with
  | [.str s] => if szOk s.length = true then .ok (.ref st.length) (st ++ [.lst (s.map fun c => PV.str [c])]) else .bad
  | [p] => match seqOf st p with
    | some ys => .ok (.ref st.length) (st ++ [.lst ys])
    | none => .bad
  | _ => .bad
def rListA (K : PySem.W.Frag) : List V → Hp → VK → Prop := fun xs H Q => (∃ p ys, xs = [.ref p] ∧ (SqL K H p ys ∨ SqT K H p ys) ∧ ∀ l, H l = none → Q (.ref l) (upd H l (.lst ys))) ∨
  ∃ z : Str, xs = [.str z] ∧ z.length ≤ sizeLine ∧ ∀ l, H l = none → Q (.ref l) (upd H l (.lst (z.cps.toList.map fun c => V.str ⟨#[c]⟩)))
theorem vals_signs {x : Str} {acc : Array Value} (h : ItemsOf (SignAt x) acc x.cps.size) : Vals (x.cps.toList.map fun c => V.str ⟨#[c]⟩) acc.toList := by
  have key : ∀ (l : List Nat) (us : List Value), us.length = l.length → (∀ (j : Nat) (v : Value), us[j]? = some v → ∃ (c : Nat) (u : Tok), l[j]? = some c ∧ v = Value.str ⟨#[c]⟩ u) → Vals (l.map fun c => V.str ⟨#[c]⟩) us := by
    intro l
    induction l with
    | nil =>
      intro us hl _
      have : us = [] := List.length_eq_zero_iff.mp hl
      rw [this]
      exact .nil
    | cons c l ih =>
      intro us hl hv
      cases us with
      | nil => cases hl
      | cons u us =>
        obtain ⟨d, t, e1, e2⟩ := hv 0 u rfl
        cases e1
        refine .cons ⟨t, e2⟩ (ih us (Nat.succ.inj hl) fun j v e => ?_)
        obtain ⟨d, t, e1, e2⟩ := hv (j + 1) v (by simpa using e)
        exact ⟨d, t, by simpa using e1, e2⟩
  refine key _ _ (by rw [Array.length_toList, h.1, Array.length_toList]) fun j v e => ?_
  obtain ⟨c, u, e1, e2⟩ := h.2 j v (by simpa using e)
  exact ⟨c, u, by simpa using e1, e2⟩
theorem call_listA {X : Cx} (hc : X.calm = true) : CallR X (.type "list") (rListA X.K) := by
  intro pins s σ H xs us Q I r h
  rcases h with h | h
  · exact call_list_of pins s σ H xs us Q I r h
  · obtain ⟨z, rfl, hz, q⟩ := h
    obtain ⟨u, rfl, t, rfl⟩ := vals1 r
    refine call_list_str (I.ok.hd hc) z t (fun h' tk acc c' hk hS hi => ?_) hz
    have rv := vals_signs hi
    have hl : (z.cps.toList.map fun c => V.str ⟨#[c]⟩).length ≤ sizeLine := by
      rw [List.length_map, Array.length_toList]
      exact hz
    refine ⟨.ref s.heap.objs.size, _, I.laid (o := .lst (z.cps.toList.map fun c => V.str ⟨#[c]⟩)) (h' := h') (t' := tk) hk (Nat.le_refl _) ⟨hl, acc.toList, c', rv, ?_⟩, rfl, q _ (I.hok.fresh (Nat.le_refl _))⟩
    rw [Array.toArray_toList]
    exact hS
theorem ok_listA : CallOK J fList (rListA J.W.K) := by
  intro E H ρ st ps xs Q r h g
  unfold fList at g
  split at g
  · rename_i s
    split at g
    · rename_i hz
      obtain ⟨x, rfl, hx⟩ := h.one
      have hx : x = .str (toS s) := hx
      subst hx
      refine .inr ⟨_, rfl, by rw [str_len]; exact szOk_le hz, fun l hl => g _ _ _ (.newL r hl ?_) ⟨by simp, by rw [put_same]⟩⟩
      have e : (toS s).cps.toList = s := by simp
      rw [e]
      exact rvs_signs s
    · exact g.elim
  · split at g
    · rename_i p _ ys e
      obtain ⟨x, rfl, hx⟩ := h.one
      obtain ⟨a, vs, rfl, q, hv⟩ := seq_ok r hx e
      exact .inl ⟨a, vs, rfl, q, fun l hl => g _ _ _ (.newL r hl hv) ⟨by simp, by rw [put_same]⟩⟩
    · exact g.elim
  · exact g.elim
end
end Mi
end
section
set_option maxRecDepth 100000
set_option maxHeartbeats 4000000
namespace Mi
open PySem PySem.Spec PyProof.Rows L2
/-! ### isinstance -/
theorem pe_bty {X : Cx} {x : Str} {T : String} {pos : Pos} (hg : Gl X x) (hm : X.mg x = none) (hv : bootBuiltins x = some (.type T)) (hn : x ≠ "__name__" := by decide) (hd : (x == ("__debug__" : Str)) = false := by decide) : PE X (.Name x pos) (tC (.ty T)) :=
  ⟨fun _ _ _ H _ I h => ld_blt I hg hm hv ⟨.ty T, H, I, rfl, h⟩ hn hd⟩
/-- types by number: what a value is; what is asked -/
inductive Ty where
  | int | bool | str | tuple | list | dict | non
  deriving DecidableEq
def Ty.nm : Ty → String
  | .int => "int"
  | .bool => "bool"
  | .str => "str"
  | .tuple => "tuple"
  | .list => "list"
  | .dict => "dict"
  | .non => "NoneType"
def isiB : Ty → Ty → Bool
  | .int, .int => true
  | .bool, .int => true
  | .bool, .bool => true
  | .str, .str => true
  | .tuple, .tuple => true
  | .list, .list => true
  | .dict, .dict => true
  | _, _ => false
theorem isi_kit : ∀ a b : Ty, b ≠ .non → kitB a.nm b.nm = some (isiB a b) := by
  intro a b h
  cases a <;> cases b <;> first | exact absurd rfl h | decide +kernel
def tyOf (st : Sto) : PV → Option Ty
  | .non => some .non
  | .bl _ => some .bool
  | .int _ => some .int
  | .str _ => some .str
  | .tup _ => some .tuple
  | .ref k => match st[k]? with
    | some (.lst _) => some .list
    | some (.fz _) => some .list
    | some (.dct _) => some .dict
    | some (.dlk _) => some .dict
    | none => none
  | _ => none
def fIsi (T : Ty) (p : PV) (st : Sto) : Res PV := match tyOf st p with
  | some t => .ok (.bl (isiB t T)) st
  | none => .bad
section
variable {W : Wd} {H : Hp} {ρ : Nat → Addr} {st : Sto}
theorem ty_ok {p : PV} {x : V} {t : Ty} (r : RSt W H ρ st) (h : RV W H ρ st.length p x) (e : tyOf st p = some t) : TyX W.K H x (.type t.nm) := by
  cases p <;> simp only [tyOf] at e <;> try (cases e; done)
  · cases e
    have h : x = .non := h
    subst h
    exact .base .non
  · cases e
    rename_i b
    have h : x = .bl b := h
    subst h
    exact .base (.bl b)
  · cases e
    rename_i b
    have h : x = .int b := h
    subst h
    exact .base (.int b)
  · cases e
    rename_i b
    have h : x = .str (toS b) := h
    subst h
    exact .base (.str _)
  · cases e
    obtain ⟨a, vs, rfl, (q | ⟨o, q⟩) | q, _⟩ := h
    · exact .base (.tup q)
    · exact .fTuple q
    · obtain ⟨o, its, n, q1, q2, _⟩ := q
      exact .kTuple q1 q2
  · rename_i k
    obtain ⟨_, rfl⟩ := h
    split at e
    · rename_i xs e1
      cases e
      obtain ⟨vs, q, _⟩ := r.obj k _ e1
      exact .base (.lst q)
    · rename_i xs e1
      cases e
      obtain ⟨vs, q, _⟩ := r.obj k _ e1
      rcases q with ⟨o, q⟩ | ⟨o, its, n, q1, q2, _⟩
      · exact .base (.frz q)
      · exact .kList q1 q2
    · rename_i xs e1
      cases e
      obtain ⟨vs, q, _⟩ := r.obj k _ e1
      exact .base (.dK q)
    · rename_i xs e1
      cases e
      obtain ⟨vs, o, q, _⟩ := r.obj k _ e1
      exact .fDict q
    · cases e
end
section
variable {X : Cx} {J : Jx} {e : Expr} {de : DE}
theorem xe_isi {T : Str} {ty : Ty} {p p2 pos : Pos} (J2 : XJ X J) (hg : Gl X "isinstance") (hm : X.mg "isinstance" = none) (hT : Gl X T) (hmT : X.mg T = none) (hv : bootBuiltins T = some (.type ty.nm)) (hty : ty ≠ .non) (he : PE X e (rdE J de)) (hnT : T ≠ "__name__" := by decide) (hdT : (T == ("__debug__" : Str)) = false := by decide)
    (hs : starEach [e, .Name T p2] X.env = (false, eval e X.env) :: starEach [.Name T p2] X.env := by rfl) : PE X (.Call (.Name "isinstance" p) [e, .Name T p2] [] pos) (rdE J (dUn (fIsi ty) de)) :=
  PE.imp (pe_callB call_isi hg hm (by decide +kernel) (pa_cons he (pa_cons (pe_bty hT hmT hv hnT hdT) pa_nil (by rfl)) hs) (by decide) (by decide) hs (by rfl)) fun σ H Q h =>
    rd_bind J2.st h fun ρ th env st v x H1 S rv g => by
      unfold fIsi at g
      split at g
      · rename_i t et
        exact ⟨x, .ty ty.nm, .type t.nm, .type ty.nm, isiB t ty, rfl, .ty _, by rw [← J2.K]; exact ty_ok S.rs rv et, kit_ty (isi_kit t ty hty), g H1 ρ _ (.refl S.rs) rfl⟩
      · exact g.elim
/-! ### repr -/
def fRepr (xs : List PV) (st : Sto) : Res PV := match xs with
  | [p] => match dat 60 st p with
    | some d => if (d.showable && !d.hasDict && Nat.ble d.shown.length 16777216) = true then .ok (.str (ofS d.shown)) st else .bad
    | none => .bad
  | _ => .bad
def rReprA (K : PySem.W.Frag) : List V → Hp → VK → Prop := fun xs H Q => ∃ x d, xs = [x] ∧ Dp K H x d ∧ d.showable = true ∧ d.hasDict = false ∧ SeqAt.shaped d = true ∧ d.shown.length ≤ sizeLine ∧ Q (.str d.shown) H
theorem call_reprA (hgd : X.A.guards = some []) (hu : X.A.units + 66 < cLine) : CallR X (.builtin "repr") (rReprA X.K) := by
  intro pins s σ H xs us Q I r h
  obtain ⟨x, d, rfl, hd, h1, h2, h3, h4, q⟩ := h
  obtain ⟨u, rfl, ru⟩ := vals1 r
  have hdp := SeqAt.depth_of_shaped h3
  obtain ⟨as, rd⟩ := Dp.reads I d x u hd ru
  cases hd with
  | non =>
    have ru : u = Value.none := ru
    subst ru
    exact PySem.P.repr_of_none ⟨.str _, H, I.tok _, ⟨_, rfl⟩, q⟩
  | bl b =>
    have ru : u = Value.bool b := ru
    subst ru
    exact PySem.P.repr_of_bool ⟨.str _, H, I.tok _, ⟨_, rfl⟩, q⟩
  | int i =>
    obtain ⟨t, rfl⟩ := ru
    exact PySem.P.repr_of_int (of_decide_eq_true h1) ⟨.str _, H, I.tok _, ⟨_, rfl⟩, q⟩
  | str z =>
    obtain ⟨t, rfl⟩ := ru
    exact PySem.P.repr_of_str ⟨.str _, H, I.tok _, ⟨_, rfl⟩, q⟩ h4
  | lst _ _ =>
    have ru : u = _ := ru
    subst ru
    exact repr_of_reads' rd h1 (PyData.noDict_hsm h2) hgd (by omega) (fun _ _ e => e) (fun h' u tk hk => ⟨.str _, H, I.kept (t' := tk) hk, ⟨_, rfl⟩, q⟩) h4
  | tup _ _ =>
    have ru : u = _ := ru
    subst ru
    exact repr_of_reads' rd h1 (PyData.noDict_hsm h2) hgd (by omega) (fun _ _ e => e) (fun h' u tk hk => ⟨.str _, H, I.kept (t' := tk) hk, ⟨_, rfl⟩, q⟩) h4
theorem ok_repr : CallOK J fRepr (rReprA J.W.K) := by
  intro E H ρ st ps xs Q r h g
  unfold fRepr at g
  split at g
  · split at g
    · rename_i p d e
      split at g
      · rename_i hc
        rw [Bool.and_eq_true, Bool.and_eq_true] at hc
        obtain ⟨⟨c1, c2⟩, c3⟩ := hc
        obtain ⟨x, rfl, hx⟩ := h.one
        refine ⟨x, d, rfl, dat_dp r _ _ _ _ e hx, c1, by simpa using c2, shaped_dat (by decide) e, by rw [sizeLine_eq]; exact Nat.le_of_ble_eq_true c3, g H ρ _ (.refl r) rfl⟩
      · exact g.elim
    · exact g.elim
  · exact g.elim
/-! ### in -/
def datsOf (st : Sto) (xs : List PV) : Option (List PyData) := mapO (dat 59 st) xs
def pInB (x y : PV) (st : Sto) : Option Bool := match x, y with
  | .str a, .str b => match a with
    | [c] => some (decide (c ∈ b))
    | _ => some (!(Builtin.Str.occurrences (toS b) (toS a) 0 b.length 1).isEmpty)
  | x, y => match dat 60 st x with
    | some d => match seqOf st y with
      | some ys => match datsOf st ys with
        | some ds => some (ds.any fun z => PyData.eqv z d)
        | none => none
      | none => none
    | none => none
def pIn (x y : PV) (st : Sto) : Res PV := match pInB x y st with
  | some b => .ok (.bl b) st
  | none => .bad
def pNotIn (x y : PV) (st : Sto) : Res PV := match pInB x y st with
  | some b => .ok (.bl (!b)) st
  | none => .bad
def rInT (K : PySem.W.Frag) (f : Bool → Bool) : R2 := fun x y H Q => ∃ d ds, Dp K H x d ∧ (Dp K H y (.list ds) ∨ Dp K H y (.tuple ds)) ∧ SeqAt.shaped d = true ∧ SeqAt.shaped (.list ds) = true ∧ Q (.bl (f (ds.any fun z => PyData.eqv z d))) H
def rInA (K : PySem.W.Frag) (f : Bool → Bool) : R2 := fun x y H Q => (∃ (c : Nat) (z : Str), x = .str ⟨#[c]⟩ ∧ y = .str z ∧ Q (.bl (f (decide (c ∈ z.cps.toList)))) H) ∨ (∃ i j, x = .str i ∧ y = .str j ∧ Q (.bl (f (!(Builtin.Str.occurrences j i 0 j.length 1).isEmpty))) H) ∨ rInT K f x y H Q
theorem op_inT (hu : X.A.units + 65 < cLine) : OpR X (compareOp .In) (rInT X.K fun b => b) := by
  intro pins s σ H x y v u Q I rx ry h
  obtain ⟨d, ds, hd, he, sd, se, q⟩ := h
  obtain ⟨as, r1⟩ := Dp.reads I d x v hd rx
  rcases he with he | he
  · obtain ⟨bs, r2⟩ := Dp.reads I _ y u he ry
    exact SeqAt.in_list_reads r2 r1 (SeqAt.canLay_of_shaped se) (SeqAt.canLay_of_shaped sd) (room_in_shaped sd hu) ⟨.bl _, H, I, rfl, q⟩
  · obtain ⟨bs, r2⟩ := Dp.reads I _ y u he ry
    exact SeqAt.in_tuple_reads r2 r1 (SeqAt.canLay_of_shaped se) (SeqAt.canLay_of_shaped sd) (room_in_shaped sd hu) ⟨.bl _, H, I, rfl, q⟩
theorem op_notInT (hu : X.A.units + 65 < cLine) : OpR X (compareOp .NotIn) (rInT X.K fun b => !b) := by
  intro pins s σ H x y v u Q I rx ry h
  obtain ⟨d, ds, hd, he, sd, se, q⟩ := h
  obtain ⟨as, r1⟩ := Dp.reads I d x v hd rx
  rcases he with he | he
  · obtain ⟨bs, r2⟩ := Dp.reads I _ y u he ry
    exact SeqAt.notIn_list_reads r2 r1 (SeqAt.canLay_of_shaped se) (SeqAt.canLay_of_shaped sd) (room_in_shaped sd hu) ⟨.bl _, H, I, rfl, q⟩
  · obtain ⟨bs, r2⟩ := Dp.reads I _ y u he ry
    exact SeqAt.notIn_tuple_reads r2 r1 (SeqAt.canLay_of_shaped se) (SeqAt.canLay_of_shaped sd) (room_in_shaped sd hu) ⟨.bl _, H, I, rfl, q⟩
theorem op_inA (hu : X.A.units + 65 < cLine) : OpR X (compareOp .In) (rInA X.K fun b => b) := OpR.or op_in_sign (OpR.or op_in_str (op_inT hu))
theorem op_notInA (hu : X.A.units + 65 < cLine) : OpR X (compareOp .NotIn) (rInA X.K fun b => !b) := OpR.or op_notIn_sign (OpR.or op_notIn_str (op_notInT hu))
theorem inB_ok {f : Bool → Bool} {W : Wd} {H : Hp} {ρ : Nat → Addr} {st : Sto} {p q : PV} {x y : V} {b : Bool} {Q : VK} (r : RSt W H ρ st) (hx : RV W H ρ st.length p x) (hy : RV W H ρ st.length q y) (h : pInB p q st = some b) (hQ : Q (.bl (f b)) H) : rInA W.K f x y H Q := by
  unfold pInB at h
  split at h
  · rename_i a b'
    have hx : x = .str (toS a) := hx
    have hy : y = .str (toS b') := hy
    subst hx hy
    split at h
    · rename_i c
      cases h
      refine .inl ⟨c, toS b', rfl, rfl, ?_⟩
      have e : (toS b').cps.toList = b' := by simp
      rw [e]
      exact hQ
    · cases h
      refine .inr (.inl ⟨_, _, rfl, rfl, ?_⟩)
      rw [str_len]
      exact hQ
  · split at h
    · rename_i d ed
      split at h
      · rename_i ys ey
        split at h
        · rename_i ds eds
          cases h
          have hm := mapO_all (P := fun d => d.canLay0 = true ∧ d.depth ≤ 59) (dat_shape 59) eds
          have hsh : SeqAt.shaped (.list ds) = true := by
            unfold SeqAt.shaped
            rw [Bool.and_eq_true]
            refine ⟨canLayAll_of fun d q => (hm d q).1, decide_eq_true ?_⟩
            unfold PyData.depth
            have := depthAll_of fun d q => (hm d q).2
            omega
          refine .inr (.inr ⟨d, ds, dat_dp r _ _ _ _ ed hx, ?_, shaped_dat (by decide) ed, hsh, hQ⟩)
          obtain ⟨a, vs, rfl, q, hv⟩ := seq_ok r hy ey
          have hdp := mapO_dp r (dat_dp r 59) eds hv
          rcases q with q | q
          · exact .inl (.lst q hdp)
          · exact .inr (.tup q hdp)
        · cases h
      · cases h
    · cases h
theorem ok_in : OpOK J pIn (rInA J.W.K fun b => b) := by
  intro E H ρ st p q x y Q r hx hy g
  unfold pIn at g
  cases e : pInB p q st with
  | none =>
    rw [e] at g
    exact g.elim
  | some b =>
    rw [e] at g
    exact inB_ok r hx hy e (g H ρ (.bl b) (.refl r) rfl)
theorem ok_notIn : OpOK J pNotIn (rInA J.W.K fun b => !b) := by
  intro E H ρ st p q x y Q r hx hy g
  unfold pNotIn at g
  cases e : pInB p q st with
  | none =>
    rw [e] at g
    exact g.elim
  | some b =>
    rw [e] at g
    exact inB_ok r hx hy e (g H ρ (.bl (!b)) (.refl r) rfl)
/-! ### slices -/
def cutP {α : Type} (xs : List α) (lo hi : Option Int) : List α := (xs.drop (HT.sIx xs.length 0 lo)).take (HT.sIx xs.length xs.length hi - HT.sIx xs.length 0 lo)
theorem rvs_cut {W : Wd} {H : Hp} {ρ : Nat → Addr} {n : Nat} {ps : List PV} {vs : List V} (h : RVs W H ρ n ps vs) (lo hi : Option Int) : RVs W H ρ n (cutP ps lo hi) (cutV vs lo hi) := by
  unfold cutP cutV
  rw [h.length]
  exact (h.drop _).take _
def fSl (p : PV) (lo hi : Option Int) (st : Sto) : Res PV := match p with
  | .str s => if szOk s.length = true then .ok (.str (ofS (Txt.slice (toS s) lo hi))) st else .bad
  | .tup xs => .ok (.tup (cutP xs lo hi)) st
  | .ref k => match lstAt st k with
    | some xs => .ok (.ref st.length) (st ++ [.lst (cutP xs lo hi)])
    | none => .bad
  | _ => .bad
/-- a part of a slice: left out, or an expression -/
def dNoP : Dn (Option Int) := fun _ _ st => .ok none st
def dPt (d : DE) : Dn (Option Int) := fun th env st => (d th env st).bind fun v st => match v with
  | .int i => .ok (some i) st
  | _ => .bad
abbrev rdO (J : Jx) (d : Dn (Option Int)) : TO := rdR J (fun _ _ _ p x => x = p) d
theorem PO.imp {e : Option Expr} {t t' : TO} (h : PO X e t) (k : ∀ σ H Q, t' σ H Q → t σ H Q) : PO X e t' := ⟨fun pins s σ H Q I q => h.run pins s σ H Q I (k σ H Q q)⟩
theorem xo_none : PO X none (rdO J dNoP) := PO.imp po_none fun σ H Q h => by
  obtain ⟨ρ, th, env, st, S, g⟩ := h
  exact g H ρ none (.refl S.rs) rfl
theorem xo_some (J2 : XJ X J) (he : PE X e (rdE J de)) : PO X (some e) (rdO J (dPt de)) := PO.imp (po_some he) fun σ H Q h => rd_bind J2.st h fun ρ th env st v x H1 S rv g => by
  split at g
  · rename_i i
    exact ⟨i, rv, g H1 ρ _ (.refl S.rs) rfl⟩
  · exact g.elim
def dSl (a : DE) (l h : Dn (Option Int)) : DE := fun th env st => (a th env st).bind fun x st => (l th env st).bind fun lo st => (h th env st).bind fun hi st => fSl x lo hi st
def rSlAll (K : PySem.W.Frag) : V → Option Int → Option Int → Hp → VK → Prop := fun x lo hi H Q => C8.rSlX x lo hi H Q ∨ rSlA K x lo hi H Q ∨ rSlL K x lo hi H Q
theorem ok_sl {W : Wd} {E : XK} {H : Hp} {ρ : Nat → Addr} {st : Sto} {p : PV} {x : V} {lo hi : Option Int} {Q : VK} (r : RSt W H ρ st) (hx : RV W H ρ st.length p x) (g : gE W E (fSl p lo hi st) H ρ st.length Q) : rSlAll W.K x lo hi H Q := by
  unfold fSl at g
  split at g
  · split at g
    · rename_i s hz
      exact .inl ⟨toS s, hx, by rw [str_len]; exact szOk_le hz, g H ρ _ (.refl r) rfl⟩
    · exact g.elim
  · rename_i xs
    obtain ⟨a, vs, rfl, q, hv⟩ := hx
    refine .inr (.inl ⟨a, vs, rfl, q, fun hw => g H ρ _ (.refl r) ⟨a, vs, rfl, q, ?_⟩, fun _ l hl => g _ ρ _ (.newT r hl) (rv_newT hl (rvs_cut hv lo hi))⟩)
    unfold cutP
    rw [hv.length, hw.1, hw.2, List.drop_zero, Nat.sub_zero, ← hv.length, List.take_length]
    exact hv
  · split at g
    · rename_i k xs e
      obtain ⟨_, rfl⟩ := hx
      obtain ⟨vs, q, hv⟩ := r.seq e
      exact .inr (.inr ⟨_, vs, rfl, q, fun l hl => g _ _ _ (.newL r hl (rvs_cut hv lo hi)) ⟨by simp, by rw [put_same]⟩⟩)
    · exact g.elim
  · exact g.elim
theorem xe_sl {lo hi : Option Expr} {dlo dhi : Dn (Option Int)} {pos p2 : Pos} (J2 : XJ X J) (he : PE X e (rdE J de)) (hl : PO X lo (rdO J dlo)) (hh : PO X hi (rdO J dhi)) : PE X (.Subscript e (.Slice lo hi none p2) pos) (rdE J (dSl de dlo dhi)) :=
  PE.imp (pe_slice (r := rSlAll X.K) (SlR.or C8.sl_txt (SlR.or sl_tupA sl_list)) he hl hh) fun σ H Q h => rd_bind J2.st h fun ρ th env st v x H1 S rv g =>
    rd_of S (gR.bind g fun lo st2 H2 ρ2 l _ s2 r2 g2 => rd_of (S.step J2.st s2) (gR.bind g2 fun hi st3 H3 ρ3 u _ s3 r3 g3 => by
      have r2 : l = lo := r2
      have r3 : u = hi := r3
      subst r2 r3
      rw [← J2.K]
      exact ok_sl s3.rs (s3.rv (s2.rv rv)) g3))
end
end Mi
end
section
set_option maxRecDepth 100000
set_option maxHeartbeats 4000000
namespace Mi
open PySem PySem.Spec PyProof.Rows L2
/-! ### sorting -/
section
variable {α : Type}
def insS (le : α → α → Bool) (x : α) : List α → List α
  | [] => [x]
  | y :: r => if le x y = true then x :: y :: r else y :: insS le x r
def sortS (le : α → α → Bool) : List α → List α
  | [] => []
  | x :: r => insS le x (sortS le r)
theorem insS_perm (le : α → α → Bool) (x : α) : ∀ l, (insS le x l).Perm (x :: l)
  | [] => .refl _
  | y :: r => by
    unfold insS
    split
    · exact .refl _
    · exact ((insS_perm le x r).cons y).trans (.swap x y r)
theorem sortS_perm (le : α → α → Bool) : ∀ l, (sortS le l).Perm l
  | [] => .refl _
  | x :: r => (insS_perm le x _).trans ((sortS_perm le r).cons x)
theorem insS_srt {le : α → α → Bool} (tot : ∀ a b, le a b = true ∨ le b a = true) (tr : ∀ a b c, le a b = true → le b c = true → le a c = true) (x : α) : ∀ l, l.Pairwise (fun a b => le a b = true) → (insS le x l).Pairwise (fun a b => le a b = true)
  | [], _ => List.pairwise_singleton _ _
  | y :: r, h => by
    obtain ⟨h1, h2⟩ := List.pairwise_cons.mp h
    unfold insS
    split
    · rename_i e
      refine List.pairwise_cons.mpr ⟨fun z hz => ?_, h⟩
      rcases List.mem_cons.mp hz with rfl | hz
      · exact e
      · exact tr _ _ _ e (h1 z hz)
    · rename_i e
      refine List.pairwise_cons.mpr ⟨fun z hz => ?_, insS_srt tot tr x r h2⟩
      rcases List.mem_cons.mp ((insS_perm le x r).mem_iff.mp hz) with rfl | hz
      · exact (tot z y).resolve_left e
      · exact h1 z hz
theorem sortS_srt {le : α → α → Bool} (tot : ∀ a b, le a b = true ∨ le b a = true) (tr : ∀ a b c, le a b = true → le b c = true → le a c = true) : ∀ l, (sortS le l).Pairwise (fun a b => le a b = true)
  | [] => .nil
  | x :: r => insS_srt tot tr x _ (sortS_srt tot tr r)
theorem sortS_eq {le : α → α → Bool} (tot : ∀ a b, le a b = true ∨ le b a = true) (tr : ∀ a b c, le a b = true → le b c = true → le a c = true) (anti : ∀ a b, le a b = true → le b a = true → a = b) {l m : List α} (p : m.Perm l) (h : m.Pairwise fun a b => le a b = true) : m = sortS le l :=
  List.Perm.eq_of_pairwise (le := fun a b => le a b = true) (fun a b _ _ => anti a b) h (sortS_srt tot tr l) (p.trans (sortS_perm le l).symm)
end
def leI (a b : Int) : Bool := decide (a ≤ b)
def leS (a b : List Nat) : Bool := !ltCps b a
def leP (p q : Int × Int) : Bool := !SrtO.lexB q p
theorem ltCps_irrefl : ∀ a, ltCps a a = false
  | [] => rfl
  | a :: r => by simp [ltCps, ltCps_irrefl r]
theorem ltCps_asymm : ∀ a b, ltCps a b = true → ltCps b a = false
  | [], [], h => by cases h
  | [], _ :: _, _ => rfl
  | _ :: _, [], h => by cases h
  | a :: r, b :: t, h => by
    simp only [ltCps, Bool.or_eq_true, Bool.and_eq_true, decide_eq_true_eq, beq_iff_eq] at h
    simp only [ltCps, Bool.or_eq_false_iff, Bool.and_eq_false_iff, decide_eq_false_iff_not, beq_eq_false_iff_ne]
    rcases h with h | ⟨h, h2⟩
    · exact ⟨by omega, .inl (by omega)⟩
    · exact ⟨by omega, .inr (ltCps_asymm r t h2)⟩
theorem ltCps_tri : ∀ a b, ltCps a b = false → ltCps b a = false → a = b
  | [], [], _, _ => rfl
  | [], _ :: _, h, _ => by cases h
  | _ :: _, [], _, h => by cases h
  | a :: r, b :: t, h, k => by
    simp only [ltCps, Bool.or_eq_false_iff, Bool.and_eq_false_iff, decide_eq_false_iff_not, beq_eq_false_iff_ne] at h k
    have e : a = b := by omega
    subst e
    have h2 := h.2.resolve_left (fun z => z rfl)
    have k2 := k.2.resolve_left (fun z => z rfl)
    rw [ltCps_tri r t h2 k2]
theorem ltCps_trans : ∀ a b c, ltCps a b = true → ltCps b c = true → ltCps a c = true
  | [], [], _, h, _ => by cases h
  | [], _ :: _, [], _, k => by cases k
  | [], _ :: _, _ :: _, _, _ => rfl
  | _ :: _, [], _, h, _ => by cases h
  | _ :: _, _ :: _, [], _, k => by cases k
  | a :: r, b :: t, c :: u, h, k => by
    simp only [ltCps, Bool.or_eq_true, Bool.and_eq_true, decide_eq_true_eq, beq_iff_eq] at h k ⊢
    rcases h with h | ⟨h, h2⟩ <;> rcases k with k | ⟨k, k2⟩
    · exact .inl (by omega)
    · exact .inl (by omega)
    · exact .inl (by omega)
    · exact .inr ⟨by omega, ltCps_trans r t u h2 k2⟩
theorem leS_tot (a b : List Nat) : leS a b = true ∨ leS b a = true := by
  unfold leS
  cases h : ltCps b a with
  | false => exact .inl rfl
  | true => exact .inr (by rw [ltCps_asymm _ _ h] <;> rfl)
theorem leS_anti (a b : List Nat) (h : leS a b = true) (k : leS b a = true) : a = b := by
  unfold leS at h k
  exact ltCps_tri a b (by simpa using k) (by simpa using h)
theorem leS_trans (a b c : List Nat) (h : leS a b = true) (k : leS b c = true) : leS a c = true := by
  unfold leS at *
  simp only [Bool.not_eq_true'] at *
  cases e : ltCps c a with
  | false => rfl
  | true =>
    exfalso
    by_cases hab : a = b
    · subst hab
      rw [e] at k
      cases k
    · have h1 : ltCps a b = true := by
        cases q : ltCps a b with
        | true => rfl
        | false => exact absurd (ltCps_tri a b q h) hab
      have := ltCps_trans c a b e h1
      rw [k] at this
      cases this
theorem leP_iff {p q : Int × Int} : leP p q = true ↔ ¬ (q.1 < p.1 ∨ (q.1 = p.1 ∧ q.2 < p.2)) := by
  unfold leP
  rw [← SrtO.lexB_iff]
  cases SrtO.lexB q p <;> simp
theorem leP_tot (a b : Int × Int) : leP a b = true ∨ leP b a = true := by
  rw [leP_iff, leP_iff]
  omega
theorem leP_anti (a b : Int × Int) (h : leP a b = true) (k : leP b a = true) : a = b := by
  rw [leP_iff] at h k
  exact Prod.ext (by omega) (by omega)
theorem leP_trans (a b c : Int × Int) (h : leP a b = true) (k : leP b c = true) : leP a c = true := by
  rw [leP_iff] at h k ⊢
  omega
/-- pairs of ints at V's -/
def pairsOf : List PV → Option (List (Int × Int))
  | [] => some []
  | .tup [.int i, .int j] :: r => match pairsOf r with
    | some is => some ((i, j) :: is)
    | none => none
  | _ :: _ => none
def PrAt (K : PySem.W.Frag) (H : Hp) (x : V) (p : Int × Int) : Prop := ∃ t, x = .ref t ∧ SqT K H t [.int p.1, .int p.2]
theorem rvs_pairs {W : Wd} {H : Hp} {ρ : Nat → Addr} {n : Nat} : ∀ {ps : List PV} {is : List (Int × Int)} {vs : List V}, pairsOf ps = some is → RVs W H ρ n ps vs → Paired (PrAt W.K H) vs is
  | [], is, vs, e, h => by
    cases e
    have h : vs = [] := h
    subst h
    exact .nil
  | p :: ps, is, vs, e, ⟨v, r, e2, h1, h2⟩ => by
    unfold pairsOf at e
    split at e
    · rename_i e3
      cases e3
    · rename_i i j ps' e3
      cases e3
      split at e
      · rename_i js ejs
        cases e
        subst e2
        obtain ⟨a, us, rfl, q, hu⟩ := h1
        obtain ⟨y, z, rfl, hy, hz⟩ := hu.two
        have hy : y = .int i := hy
        have hz : z = .int j := hz
        subst hy hz
        exact .cons ⟨a, rfl, q⟩ (rvs_pairs ejs h2)
      · cases e
    · cases e
theorem rvs_of_pairs {W : Wd} {H : Hp} {ρ : Nat → Addr} {n : Nat} : ∀ {is : List (Int × Int)} {vs : List V}, Paired (PrAt W.K H) vs is → RVs W H ρ n (is.map fun p => .tup [.int p.1, .int p.2]) vs
  | _, _, .nil => rfl
  | _, _, .cons ⟨t, e, q⟩ h => ⟨_, _, rfl, ⟨t, _, e, q, ⟨_, _, rfl, rfl, _, _, rfl, rfl, rfl⟩⟩, rvs_of_pairs h⟩
/-- sorted(list of pairs) -/
def rSortedPT (K : PySem.W.Frag) : List V → Hp → VK → Prop := fun vs H Q => ∃ (a : Addr) (xs : List V) (is : List (Int × Int)), vs = [V.ref a] ∧ SqL K H a xs ∧ Paired (PrAt K H) xs is ∧
  ∀ ys p, Paired (PrAt K H) ys (sortS leP is) → H p = none → Q (.ref p) (upd H p (.lst ys))
theorem paired_mem {α β : Type} {R : α → β → Prop} : ∀ {xs : List α} {ys : List β}, Paired R xs ys → ∀ x ∈ xs, ∃ y, R x y
  | _, _, .nil, x, h => by cases h
  | _, _, .cons r t, x, h => by
    rcases List.mem_cons.mp h with rfl | h
    · exact ⟨_, r⟩
    · exact paired_mem t x h
section
variable {X : Cx} {J : Jx}
open Classical in
/-- the ints of the pair at a V, if there is one -/
noncomputable def prK (K : PySem.W.Frag) (H : Hp) (x : V) : Int × Int := if h : ∃ p, PrAt K H x p then h.choose else (0, 0)
theorem prK_at {K : PySem.W.Frag} {H : Hp} {x : V} {p : Int × Int} (h : PrAt K H x p) : PrAt K H x (prK K H x) := by
  unfold prK
  rw [dif_pos ⟨p, h⟩]
  exact Exists.choose_spec (⟨p, h⟩ : ∃ p, PrAt K H x p)
theorem prAt_inj {pins : List (Addr × Obj)} {σ : L2.St} {H : Hp} {s : Shared} (I : Inv X pins σ H s) {x : V} {p q : Int × Int} (h : PrAt X.K H x p) (k : PrAt X.K H x q) : p = q := by
  obtain ⟨t, rfl, h⟩ := h
  obtain ⟨t', e, k⟩ := k
  cases e
  have := I.tuple_inj h k
  injection this with e1 e2
  injection e1 with e1
  injection e2 with e2
  injection e2 with e2
  exact Prod.ext e1 e2
theorem cr_sortedPT : CallR X (.builtin "sorted") (rSortedPT X.K) := by
  intro pins s σ H vs us Q I r h
  obtain ⟨a, xs, is, rfl, hs, hx, q⟩ := h
  obtain ⟨its, rv, hl, hz⟩ := I.list hs
  obtain ⟨u, rfl, ru⟩ := vals1 r
  have ru : u = Value.ref a := ru
  subst ru
  obtain ⟨e1, e2⟩ := refs_back rv fun x m => by
    obtain ⟨p, t, e, _⟩ := paired_mem hx x m
    exact ⟨t, e⟩
  have ek : ∀ {ys : List V} {js : List (Int × Int)}, Paired (PrAt X.K H) ys js → js = ys.map (prK X.K H) := fun {ys js} h => by
    induction h with
    | nil => rfl
    | cons r t ih => rw [List.map_cons, ← ih, prAt_inj I r (prK_at r)]
  refine SrtO.sorted_pairsO (k := fun u => prK X.K H (backV u)) hl.isList (by rw [← rv.length]; exact hz) (fun v hv => ?_) fun h' d out h1 h2 kp hd hn => ?_
  · obtain ⟨t, rfl⟩ := e2 v hv
    have hm : V.ref t ∈ xs := by
      rw [e1]
      exact List.mem_map.mpr ⟨_, hv, rfl⟩
    obtain ⟨p, hp⟩ := paired_mem hx _ hm
    obtain ⟨t', e, q⟩ := prK_at hp
    cases e
    obtain ⟨its2, r2, ⟨o, ho, hc, n, hdd⟩, _⟩ := I.tuple q
    obtain ⟨u1, u2, rfl, ⟨t1, rfl⟩, t2, rfl⟩ := vals2 r2
    exact ⟨t, o, t1, t2, n, rfl, ho, hc, hdd⟩
  · have h3 : ∀ u ∈ out, ∃ a, u = Value.ref a := fun u hu => e2 u (h2.perm.mem_iff.mp hu)
    obtain ⟨n, hn⟩ := hn
    have pm : (out.map backV).Perm xs := by
      rw [e1]
      exact h2.perm.map backV
    have hp : Paired (PrAt X.K H) (out.map backV) ((out.map backV).map (prK X.K H)) := by
      have : ∀ y ∈ out.map backV, PrAt X.K H y (prK X.K H y) := fun y hy => by
        obtain ⟨p, hp⟩ := paired_mem hx y (pm.mem_iff.mp hy)
        exact prK_at hp
      generalize out.map backV = ys at this
      induction ys with
      | nil => exact .nil
      | cons y ys ih => exact .cons (this y List.mem_cons_self) (ih fun z hz => this z (List.mem_cons_of_mem _ hz))
    have es : (out.map backV).map (prK X.K H) = sortS leP is := by
      refine sortS_eq leP_tot leP_trans leP_anti ?_ ?_
      · rw [ek hx]
        exact pm.map _
      · rw [List.map_map, List.pairwise_map]
        refine h1.imp fun {x y} hxy => ?_
        unfold leP
        have hxy : SrtO.lexB (prK X.K H (backV y)) (prK X.K H (backV x)) = false := hxy
        show (!SrtO.lexB (prK X.K H (backV y)) (prK X.K H (backV x))) = true
        rw [hxy] <;> rfl
    rw [es] at hp
    refine ⟨.ref d, upd H d (.lst (out.map backV)), I.laid (t' := s.toks) kp hd ⟨?_, out, n, vals_back h3, hn⟩, rfl, q _ d hp (I.hok.fresh hd)⟩
    rw [pm.length_eq]
    exact hz
def fSorted (xs : List PV) (st : Sto) : Res PV := match xs with
  | [.ref k] => match lstAt st k with
    | some ys => match intsOf ys with
      | some is => .ok (.ref st.length) (st ++ [.lst ((sortS leI is).map .int)])
      | none => match strsOf ys with
        | some ss => if Nat.blt ss.length 64 = true then .ok (.ref st.length) (st ++ [.lst ((sortS leS ss).map .str)]) else .bad
        | none => match pairsOf ys with
          | some is => .ok (.ref st.length) (st ++ [.lst ((sortS leP is).map fun p => .tup [.int p.1, .int p.2])])
          | none => .bad
    | none => .bad
  | _ => .bad
def rSortAll (K : PySem.W.Frag) : List V → Hp → VK → Prop := fun xs H Q => rSortedI K xs H Q ∨ rSortedS K xs H Q ∨ rSortedPT K xs H Q
theorem call_sortA : CallR X (.builtin "sorted") (rSortAll X.K) := CallR.or cr_sortedI (CallR.or cr_sortedS cr_sortedPT)
theorem risingS_pw : ∀ (p : Str) (l : List Str), risingS p l = true → (p :: l).Pairwise fun a b => leS (ofS a) (ofS b) = true
  | p, [], _ => List.pairwise_singleton _ _
  | p, x :: r, h => by
    unfold risingS at h
    rw [Bool.and_eq_true] at h
    have ih := risingS_pw x r h.2
    have h1 : leS (ofS p) (ofS x) = true := h.1
    refine List.pairwise_cons.mpr ⟨fun z hz => ?_, ih⟩
    rcases List.mem_cons.mp hz with rfl | hz
    · exact h1
    · exact leS_trans _ _ _ h1 ((List.pairwise_cons.mp ih).1 z hz)
theorem ok_sorted : CallOK J fSorted (rSortAll J.W.K) := by
  intro E H ρ st ps xs Q r h g
  unfold fSorted at g
  split at g
  · split at g
    · rename_i k ys e1
      obtain ⟨x, rfl, _, rfl⟩ := h.one
      obtain ⟨vs, q, hv⟩ := r.seq e1
      split at g
      · rename_i is e2
        rw [rvs_ints e2 hv] at q
        refine .inl ⟨_, is, rfl, q, fun ns' p h1 h2 hp => ?_⟩
        have e := sortS_eq (le := leI) (fun a b => by unfold leI; rw [decide_eq_true_eq, decide_eq_true_eq]; omega) (fun a b c => by unfold leI; simp only [decide_eq_true_eq]; omega) (fun a b => by unfold leI; simp only [decide_eq_true_eq]; omega) h1 (h2.imp fun hxy => by unfold leI; exact decide_eq_true hxy)
        subst e
        exact g _ _ _ (.newL r hp (rvs_of_ints _)) ⟨by simp, by rw [put_same]⟩
      · split at g
        · rename_i ss e2
          split at g
          · rename_i hz
            rw [rvs_strs e2 hv] at q
            refine .inr (.inl ⟨_, ss.map toS, rfl, q, by rw [List.length_map]; exact Nat.le_of_ble_eq_true hz, fun zs p h1 h2 hp => ?_⟩)
            have e : zs.map ofS = sortS leS ss := by
              refine sortS_eq leS_tot leS_trans leS_anti ?_ ?_
              · have := h1.map ofS
                rw [List.map_map] at this
                have e3 : (ofS ∘ toS) = id := by
                  funext z
                  show (z.toArray).toList = z
                  simp
                rw [e3, List.map_id] at this
                exact this
              · rw [List.pairwise_map]
                cases zs with
                | nil => exact .nil
                | cons z zs => exact risingS_pw z zs h2
            have e4 : zs = (sortS leS ss).map toS := by
              rw [← e, List.map_map]
              have : (toS ∘ ofS) = id := by
                funext z
                exact toS_ofS z
              rw [this, List.map_id]
            subst e4
            exact g _ _ _ (.newL r hp (rvs_of_strs _)) ⟨by simp, by rw [put_same]⟩
          · exact g.elim
        · split at g
          · rename_i is e2
            refine .inr (.inr ⟨_, vs, is, rfl, q, rvs_pairs e2 hv, fun zs p h1 hp => ?_⟩)
            exact g _ _ _ (.newL r hp (rvs_of_pairs h1)) ⟨by simp, by rw [put_same]⟩
          · exact g.elim
    · exact g.elim
  · exact g.elim
end
end Mi
end
section
set_option maxRecDepth 100000
set_option maxHeartbeats 4000000
namespace Mi
open PySem PySem.Spec PyProof.Rows L2
section
variable {X : Cx} {J : Jx}
/-! ### methods -/
def isStr (p : PV) (_ : Sto) : Bool := match p with
  | .str _ => true
  | _ => false
def isTup (p : PV) (_ : Sto) : Bool := match p with
  | .tup _ => true
  | _ => false
def isLst (p : PV) (st : Sto) : Bool := match p with
  | .ref k => (lstAt st k).isSome
  | _ => false
theorem ty_str : TyOK J "str" isStr := by
  intro H ρ st p x r h e
  cases p <;> simp only [isStr] at e <;> try (cases e; done)
  rename_i s
  have h : x = .str (toS s) := h
  subst h
  exact rfl
theorem ty_lst : TyOK J "list" isLst := by
  intro H ρ st p x r h e
  cases p <;> simp only [isLst] at e <;> try (cases e; done)
  rename_i k
  obtain ⟨_, rfl⟩ := h
  obtain ⟨xs, ex⟩ := Option.isSome_iff_exists.mp e
  obtain ⟨vs, q, _⟩ := r.seq ex
  exact .inl ⟨rfl, vs, q⟩
/-- a list of the store, written -/
def onLst (p : PV) (st : Sto) (f : List PV → Option (List PV)) : Res PV := match p with
  | .ref k => match st[k]? with
    | some (.lst xs) => match f xs with
      | some ys => .ok .non (st.set k (.lst ys))
      | none => .bad
    | _ => .bad
  | _ => .bad
def mAppend (p : PV) (ps : List PV) (st : Sto) : Res PV := match ps with
  | [q] => onLst p st fun xs => if Nat.blt xs.length 16777216 = true then some (xs ++ [q]) else none
  | _ => .bad
theorem ok_append : MetOK J mAppend rAppend := by
  intro E H ρ st p ps x xs Q r hx hxs g
  unfold mAppend at g
  split at g
  · unfold onLst at g
    split at g
    · split at g
      · rename_i q _ k ys e1
        split at g
        · rename_i zs e2
          dsimp only at e2
          split at e2
          · rename_i hz
            cases e2
            obtain ⟨_, rfl⟩ := hx
            obtain ⟨y, rfl, hy⟩ := hxs.one
            obtain ⟨vs, h1, h2⟩ := r.lst e1
            refine ⟨_, vs, y, rfl, rfl, h1, by rw [← h2.length, sizeLine_eq]; exact Nat.le_of_ble_eq_true hz, ?_⟩
            exact g _ ρ _ (.setL r e1 rfl (h2.append ⟨y, [], rfl, hy, rfl⟩)) rfl
          · cases e2
        · exact g.elim
      · exact g.elim
    · exact g.elim
  · exact g.elim
def mExtend (p : PV) (ps : List PV) (st : Sto) : Res PV := match ps with
  | [.ref j] => match st[j]? with
    | some (.lst zs) => onLst p st fun xs => if szOk (xs.length + zs.length) = true then some (xs ++ zs) else none
    | _ => .bad
  | _ => .bad
theorem ok_extend : MetOK J mExtend rExtend := by
  intro E H ρ st p ps x xs Q r hx hxs g
  unfold mExtend at g
  split at g
  · split at g
    · rename_i j zs e0
      unfold onLst at g
      split at g
      · split at g
        · rename_i k ys e1
          split at g
          · rename_i us e2
            dsimp only at e2
            split at e2
            · rename_i hz
              cases e2
              obtain ⟨_, rfl⟩ := hx
              obtain ⟨y, rfl, _, rfl⟩ := hxs.one
              obtain ⟨vs, h1, h2⟩ := r.lst e1
              obtain ⟨ws, h3, h4⟩ := r.lst e0
              refine ⟨_, _, vs, ws, rfl, rfl, h1, h3, by rw [← h2.length, ← h4.length]; exact szOk_le hz, ?_⟩
              exact g _ ρ _ (.setL r e1 rfl (h2.append h4)) rfl
            · cases e2
          · exact g.elim
        · exact g.elim
      · exact g.elim
    · exact g.elim
  · exact g.elim
/-- sep.join(..) -/
def glue (sep : List Nat) : List (List Nat) → List Nat
  | [] => []
  | [x] => x
  | x :: y :: r => x ++ sep ++ glue sep (y :: r)
def mJoin (p : PV) (ps : List PV) (st : Sto) : Res PV := match p, ps with
  | .str a, [q] => match seqOf st q with
    | some ys => match strsOf ys with
      | some ss => if szOk ((ss.map List.length).sum + ss.length * a.length) = true then .ok (.str (glue a ss)) st else .bad
      | none => .bad
    | none => .bad
  | _, _ => .bad
theorem glue_ok (a : List Nat) : ∀ ss : List (List Nat), Txt.join (toS a) (ss.map toS) = toS (glue a ss)
  | [] => rfl
  | [x] => rfl
  | x :: y :: r => by
    have ih := glue_ok a (y :: r)
    have e : Txt.join (toS a) ((x :: y :: r).map toS) = toS x ++ toS a ++ Txt.join (toS a) ((y :: r).map toS) := by
      unfold Txt.join
      rw [StrLaws.glued_eq_join, StrLaws.glued_eq_join] <;> rfl
    rw [e, ih, ← str_app, ← str_app] <;> rfl
theorem ok_join : MetOK J mJoin (fun x xs H Q => ∃ a p, ∃ ys : List Str, x = .str a ∧ xs = [.ref p] ∧ (SqL J.W.K H p (ys.map V.str) ∨ SqT J.W.K H p (ys.map V.str)) ∧ (ys.map (·.length)).sum + ys.length * a.length ≤ 16777216 ∧ Q (.str (Txt.join a ys)) H) := by
  intro E H ρ st p ps x xs Q r hx hxs g
  unfold mJoin at g
  split at g
  · split at g
    · rename_i a q _ ys e1
      split at g
      · rename_i _ ss e2
        split at g
        · rename_i hz
          obtain ⟨y, rfl, hy⟩ := hxs.one
          obtain ⟨b, vs, rfl, hq, hv⟩ := seq_ok r hy e1
          rw [rvs_strs e2 hv] at hq
          refine ⟨toS a, b, ss.map toS, hx, rfl, hq, ?_, ?_⟩
          · have e3 : (ss.map toS).map (·.length) = ss.map List.length := by
              rw [List.map_map]
              exact congrArg (fun f => ss.map f) (funext fun z => str_len z)
            rw [e3, List.length_map, str_len]
            have := szOk_le hz
            rw [sizeLine_eq] at this
            exact this
          · rw [glue_ok]
            exact g H ρ _ (.refl r) rfl
        · exact g.elim
      · exact g.elim
    · exact g.elim
  · exact g.elim
/-- a.index(b), found -/
def mSIndex (p : PV) (ps : List PV) (st : Sto) : Res PV := match p, ps with
  | .str a, [.str b] => match Builtin.Str.occurrences (toS a) (toS b) 0 a.length 1 with
    | i :: _ => .ok (.int (i : Nat)) st
    | [] => .bad
  | _, _ => .bad
theorem ok_sindex : MetOK J mSIndex (fun x xs H Q => ∃ a b i rest, x = .str a ∧ xs = [.str b] ∧ Builtin.Str.occurrences a b 0 a.length 1 = i :: rest ∧ Q (.int (i : Nat)) H) := by
  intro E H ρ st p ps x xs Q r hx hxs g
  unfold mSIndex at g
  split at g
  · split at g
    · rename_i a b _ i rest e
      obtain ⟨y, rfl, hy⟩ := hxs.one
      exact ⟨toS a, toS b, i, rest, hx, by rw [hy], by rw [str_len]; exact e, g H ρ _ (.refl r) rfl⟩
    · exact g.elim
  · exact g.elim
/-- of a text alone -/
def mStr0 (f : Str → Str) (p : PV) (ps : List PV) (st : Sto) : Res PV := match p, ps with
  | .str a, [] => if szOk a.length = true then .ok (.str (ofS (f (toS a)))) st else .bad
  | _, _ => .bad
def mStrip := mStr0 Txt.strip
def mRstrip := mStr0 Txt.rstrip
theorem ok_str0 {f : Str → Str} : MetOK J (mStr0 f) (fun x xs H Q => ∃ a, x = .str a ∧ xs = [] ∧ a.length ≤ sizeLine ∧ Q (.str (f a)) H) := by
  intro E H ρ st p ps x xs Q r hx hxs g
  unfold mStr0 at g
  split at g
  · split at g
    · rename_i a hz
      exact ⟨toS a, hx, hxs.nil, by rw [str_len]; exact szOk_le hz, g H ρ _ (.refl r) rfl⟩
    · exact g.elim
  · exact g.elim
/-! ### operators, joined -/
theorem op_addA : OpR X (binaryOp .Add) (rAddA X.K) := OpR.or op_add (OpR.or op_add_ib (OpR.or op_add_str (OpR.or op_catA op_cat)))
theorem op_eqA (hu : X.A.units + 64 < cLine) : OpR X (compareOp .Eq) (rEqA X.K) := OpR.or op_eq (op_eqD hu)
theorem op_neA (hu : X.A.units + 64 < cLine) : OpR X (compareOp .NotEq) (rNeA X.K) := OpR.or op_ne (op_neD hu)
theorem op_ltA : OpR X (compareOp .Lt) (rCmpA (fun i j => decide (i < j)) (fun a b => decide (a < b))) := OpR.or op_lt op_lt_str
theorem op_leA : OpR X (compareOp .LtE) (rCmpA (fun i j => decide (i ≤ j)) (fun a b => !decide (b < a))) := OpR.or op_le op_le_str
theorem op_gtA : OpR X (compareOp .Gt) (rCmpA (fun i j => decide (j < i)) (fun a b => decide (b < a))) := OpR.or op_gt op_gt_str
theorem op_geA : OpR X (compareOp .GtE) (rCmpA (fun i j => decide (j ≤ i)) (fun a b => !decide (a < b))) := OpR.or op_ge op_ge_str
theorem op_mulA : OpR X (binaryOp .Mult) (rMulA X.K) := OpR.or op_mulW (OpR.or op_rep (OpR.or op_repTB (OpR.or op_repS op_rep0)))
end
end Mi
end
section
set_option maxRecDepth 100000
set_option maxHeartbeats 2000000
/-! MiTxt: more of texts: str of an int, find -/
namespace Mi
open PySem PySem.Spec PyProof.Rows L2
section
variable {X : Cx} {J : Jx}
/-- str(i) -/
def fStrI (xs : List PV) (st : Sto) : Res PV := match xs with
  | [.int i] => if decide (i.natAbs.log2 < 1920) = true then .ok (.str (ofS (toString i))) st else .bad
  | _ => .bad
theorem ok_strI : CallOK J fStrI (fun xs H Q => ∃ i, xs = [.int i] ∧ i.natAbs.log2 < 1920 ∧ Q (.str (toString i)) H) := by
  intro E H ρ st ps xs Q r h g
  unfold fStrI at g
  split at g
  · rename_i i
    split at g
    · rename_i hz
      obtain ⟨x, rfl, hx⟩ := h.one
      have hx : x = .int i := hx
      subst hx
      exact ⟨i, rfl, of_decide_eq_true hz, g H ρ _ (.refl r) rfl⟩
    · exact g.elim
  · exact g.elim
/-- a.find(b) -/
def mFind (p : PV) (ps : List PV) (st : Sto) : Res PV := match p, ps with
  | .str a, [.str b] => .ok (.int (Txt.find (toS a) (toS b))) st
  | _, _ => .bad
theorem ok_find : MetOK J mFind (fun x xs H Q => ∃ a b, x = .str a ∧ xs = [.str b] ∧ Q (.int (Txt.find a b)) H) := by
  intro E H ρ st p ps x xs Q r hx hxs g
  unfold mFind at g
  split at g
  · rename_i a b
    obtain ⟨y, rfl, hy⟩ := hxs.one
    exact ⟨toS a, toS b, hx, by rw [hy], g H ρ _ (.refl r) rfl⟩
  · exact g.elim
/-- a.find(b, i) -/
def mFind3 (p : PV) (ps : List PV) (st : Sto) : Res PV := match p, ps with
  | .str a, [.str b, .int i] => .ok (.int (Txt.find3 (toS a) (toS b) i)) st
  | _, _ => .bad
theorem ok_find3 : MetOK J mFind3 (fun x xs H Q => ∃ (a b : Str) (i : Int), x = .str a ∧ xs = [.str b, .int i] ∧ Q (.int (Txt.find3 a b i)) H) := by
  intro E H ρ st p ps x xs Q r hx hxs g
  unfold mFind3 at g
  split at g
  · rename_i a b i
    obtain ⟨y, z, rfl, hy, hz⟩ := hxs.two
    exact ⟨toS a, toS b, i, hx, by rw [hy, hz], g H ρ _ (.refl r) rfl⟩
  · exact g.elim
/-- int(x): an int, a truth value, a text of digits -/
def fIntX (xs : List PV) (st : Sto) : Res PV := match xs with
  | [.int i] => .ok (.int i) st
  | [.bl k] => .ok (.int (if k then 1 else 0)) st
  | [.str a] => if Nat.ble a.length 640 = true then match PySem.intText? (toS a) with
    | some n => .ok (.int n) st
    | none => .bad
    else .bad
  | _ => .bad
def rIntX : List V → Hp → VK → Prop := fun xs H Q => rIntA xs H Q ∨ ∃ a n, xs = [.str a] ∧ PySem.intText? a = some n ∧ a.length ≤ 640 ∧ Q (.int n) H
theorem call_intX : CallR X (.type "int") rIntX := CallR.or call_int1 call_int_str
theorem ok_intX : CallOK J fIntX rIntX := by
  intro E H ρ st ps xs Q r h g
  unfold fIntX at g
  split at g
  · rename_i i
    obtain ⟨x, rfl, hx⟩ := h.one
    have hx : x = .int i := hx
    subst hx
    exact .inl (.inl ⟨i, rfl, g H ρ _ (.refl r) rfl⟩)
  · rename_i i
    obtain ⟨x, rfl, hx⟩ := h.one
    have hx : x = .bl i := hx
    subst hx
    exact .inl (.inr ⟨i, rfl, g H ρ _ (.refl r) rfl⟩)
  · split at g
    · rename_i a hz
      split at g
      · rename_i n hn
        obtain ⟨x, rfl, hx⟩ := h.one
        have hx : x = .str (toS a) := hx
        subst hx
        exact .inr ⟨toS a, n, rfl, hn, by rw [str_len]; exact Nat.le_of_ble_eq_true hz, g H ρ _ (.refl r) rfl⟩
      · exact g.elim
    · exact g.elim
  · exact g.elim
theorem e_intX (i : Int) (st : Sto) : fIntX [.int i] st = .ok (.int i) st := rfl
theorem e_intXb (b : Bool) (st : Sto) : fIntX [.bl b] st = .ok (.int (if b then 1 else 0)) st := rfl
theorem int3 : ∀ a b c : Nat, a < 10 → b < 10 → c < 10 → PySem.intText? (toS [48 + a, 48 + b, 48 + c]) = some ((100 * a + 10 * b + c : Nat) : Int) := by
  have h : ((List.range 10).all fun a => (List.range 10).all fun b => (List.range 10).all fun c => decide (PySem.intText? (toS [48 + a, 48 + b, 48 + c]) = some ((100 * a + 10 * b + c : Nat) : Int))) = true := by decide +kernel
  intro a b c ha hb hc
  have h1 := List.all_eq_true.mp h a (List.mem_range.mpr ha)
  have h2 := List.all_eq_true.mp h1 b (List.mem_range.mpr hb)
  exact of_decide_eq_true (List.all_eq_true.mp h2 c (List.mem_range.mpr hc))
end
end Mi
end
section
set_option maxRecDepth 100000
set_option maxHeartbeats 4000000
/-! MiZip: zip of two lists, or of two tuples -/
namespace Mi
open PySem PySem.Spec PyProof.Rows L2
def zG (j k : Nat) : Nat → Sto → Option (Option PV) := fun i st => match lstAt st j with
  | some xs => match lstAt st k with
    | some ys => match xs[i]? with
      | some x => match ys[i]? with
        | some y => some (some (.tup [x, y]))
        | none => some none
      | none => some none
    | none => none
  | none => none
def zV : List PV → List PV → List PV
  | x :: xs, y :: ys => .tup [x, y] :: zV xs ys
  | _, _ => []
theorem zV_get : ∀ (xs ys : List PV) (i : Nat), (zV xs ys)[i]? = match xs[i]? with
    | some x => match ys[i]? with
      | some y => some (PV.tup [x, y])
      | none => none
    | none => none
  | [], ys, i => by simp [zV]
  | x :: xs, [], i => by
    simp only [zV, List.getElem?_nil]
    split <;> rfl
  | x :: xs, y :: ys, 0 => by simp [zV]
  | x :: xs, y :: ys, i + 1 => by
    simp only [zV, List.getElem?_cons_succ]
    exact zV_get xs ys i
theorem zV_len : ∀ (xs ys : List PV), (zV xs ys).length = min xs.length ys.length
  | [], ys => by simp [zV]
  | x :: xs, [] => by simp [zV]
  | x :: xs, y :: ys => by
    simp only [zV, List.length_cons]
    rw [zV_len xs ys]
    omega
def fZip (vs : List PV) (st : Sto) : Res ItD := match vs with
  | [.ref j, .ref k] => match lstAt st j with
    | some xs => match lstAt st k with
      | some _ => .ok (.dyn (xs.length + 1) (zG j k)) st
      | none => .bad
    | none => .bad
  | [.tup xs, .tup ys] => .ok (.vals (zV xs ys)) st
  | _ => .bad
section
variable {W : Wd} {H0 : Hp} {ρ0 : Nat → Addr} {n0 : Nat}
theorem rv_two {H : Hp} {ρ : Nat → Addr} {n : Nat} {T : Addr} {p q : PV} {x y : V} (hT : H T = none) (h : RV W H ρ n p x) (h2 : RV W H ρ n q y) : RV W (upd H T (.tup [x, y])) ρ n (.tup [p, q]) (.ref T) :=
  rv_newT (xs := [p, q]) (vs := [x, y]) hT ⟨x, [y], rfl, h, y, [], rfl, h2, rfl⟩
theorem it_zipL {j k m : Nat} (hj : j < n0) (hk : k < n0) : ItOK W H0 ρ0 n0 (.dyn m (zG j k)) (Itz W.K (ρ0 j) (ρ0 k)) := fun i H ρ st s => by
  unfold zG
  cases e : lstAt st j with
  | none => trivial
  | some xs =>
    cases e' : lstAt st k with
    | none => trivial
    | some ys =>
      obtain ⟨vs, q, hv⟩ := s.rs.seq e
      obtain ⟨ws, q', hw⟩ := s.rs.seq e'
      rw [s.agr j hj] at q
      rw [s.agr k hk] at q'
      dsimp only
      cases ex : xs[i]? with
      | none => exact ⟨vs, ws, q, q', .inl (by rw [← hv.length]; exact List.getElem?_eq_none_iff.mp ex)⟩
      | some p =>
        cases ey : ys[i]? with
        | none => exact ⟨vs, ws, q, q', .inr (by rw [← hw.length]; exact List.getElem?_eq_none_iff.mp ey)⟩
        | some p' =>
          obtain ⟨v, e1, rv⟩ := hv.get ex
          obtain ⟨w, e2, rw'⟩ := hw.get ey
          refine ⟨⟨vs, ws, v, w, q, q', e1, e2⟩, fun x H' ⟨T, y, z, e3, hT, e4, e5, e6⟩ => ?_⟩
          have e7 := e5 vs q
          rw [e1] at e7
          cases e7
          have e8 := e6 ws q'
          rw [e2] at e8
          cases e8
          subst e3 e4
          exact ⟨.newT s.rs hT, rv_two hT rv rw'⟩
theorem it_zipT {a b : Addr} {ps qs : List PV} {vs ws : List V} (hs : SqT W.K H0 a vs) (hs2 : SqT W.K H0 b ws) (hv : RVs W H0 ρ0 n0 ps vs) (hw : RVs W H0 ρ0 n0 qs ws) : ItOK W H0 ρ0 n0 (.vals (zV ps qs)) (RZ.ItzT W.K a b) := fun i H ρ st s => by
  have hq := s.ext.sqT hs
  have hq2 := s.ext.sqT hs2
  have hr := s.rvs hv
  have hr2 := s.rvs hw
  refine ⟨fun p e => ?_, fun e => ⟨vs, ws, hq, hq2, by
    rw [zV_len, hv.length, hw.length] at e
    omega⟩⟩
  rw [zV_get] at e
  cases ex : ps[i]? with
  | none =>
    rw [ex] at e
    cases e
  | some p1 =>
    rw [ex] at e
    dsimp only at e
    cases ey : qs[i]? with
    | none =>
      rw [ey] at e
      cases e
    | some p2 =>
      rw [ey] at e
      cases e
      obtain ⟨v, e1, rv⟩ := hr.get ex
      obtain ⟨w, e2, rw'⟩ := hr2.get ey
      refine ⟨⟨vs, ws, v, w, hq, hq2, e1, e2⟩, fun x H' ⟨T, y, z, e3, hT, e4, e5, e6⟩ => ?_⟩
      have e7 := e5 vs hq
      rw [e1] at e7
      cases e7
      have e8 := e6 ws hq2
      rw [e2] at e8
      cases e8
      subst e3 e4
      exact ⟨.newT s.rs hT, rv_two hT rv rw'⟩
end
section
variable {X : Cx} {J : Jx} {e e2 : Expr} {dl : DL} {elts : List Expr} {kk : Nat} {p pos tpos : Pos}
theorem xi_zip (J2 : XJ X J) (hg : Gl X "zip") (hm : X.mg "zip" = none) (ha : PA X [e, e2] (rdL J dl)) (hs : starEach [e, e2] X.env = (false, eval e X.env) :: starEach [e2] X.env := by rfl) (hpl : (backTo pos (starEach [e2] X.env)).any (·.1) = false := by rfl) : PI X (.Tuple elts kk tpos) (.Call (.Name "zip" p) [e, e2] [] pos) (rdI J (dRng fZip dl)) := PI.byCases fun σ H R h => by
  obtain ⟨ρ, th, env, st, S, g⟩ := h
  unfold dRng at g
  refine ⟨_, RZ.pi_zipA hg hm ha hs hpl, ρ, th, env, st, S, ?_⟩
  cases r : dl th env st with
  | bad =>
    rw [r] at g
    exact g.elim
  | exc x st' =>
    rw [r] at g
    exact g
  | ok v st' =>
    rw [r] at g
    replace g : gR J.W (fun H ρ n p x => ItOK J.W H ρ n p x) (fun c dd H' => J.Wx c dd σ H') (fZip v st') H ρ st.length R := g
    unfold fZip at g
    split at g
    · split at g
      · split at g
        · rename_i j k _ xs ex _ ys ey
          intro H' ρ' x s rv
          obtain ⟨y, z, rfl, ⟨hj, rfl⟩, ⟨hk, rfl⟩⟩ := rv.two
          obtain ⟨vs, q, _⟩ := s.rs.seq ex
          obtain ⟨ws, q', _⟩ := s.rs.seq ey
          exact ⟨_, _, vs, ws, rfl, .inl ⟨by rw [← J2.K]; exact q, by rw [← J2.K]; exact q', by rw [← J2.K]; exact g H' ρ' _ s (it_zipL hj hk)⟩⟩
        · exact g.elim
      · exact g.elim
    · intro H' ρ' x s rv
      obtain ⟨y, z, rfl, ⟨a, vs, rfl, q, hv⟩, ⟨b, ws, rfl, q', hw⟩⟩ := rv.two
      exact ⟨_, _, vs, ws, rfl, .inr ⟨by rw [← J2.K]; exact q, by rw [← J2.K]; exact q', by rw [← J2.K]; exact g H' ρ' _ s (it_zipT q q' hv hw)⟩⟩
    · exact g.elim
end
end Mi
end
section
set_option maxRecDepth 100000
set_option maxHeartbeats 2000000
/-! MiPop: pop of a list, at its end or at a place -/
namespace Mi
open PySem PySem.Spec PyProof.Rows L2
section
variable {X : Cx} {J : Jx}
theorem RVs.last {W : Wd} {H : Hp} {ρ : Nat → Addr} {n : Nat} {ps : List PV} {vs : List V} (h : RVs W H ρ n ps vs) : RVs W H ρ n ps.dropLast vs.dropLast := by
  rw [List.dropLast_eq_take, List.dropLast_eq_take, h.length]
  exact h.take _
theorem RVs.erase {W : Wd} {H : Hp} {ρ : Nat → Addr} {n : Nat} {ps : List PV} {vs : List V} (h : RVs W H ρ n ps vs) (k : Nat) : RVs W H ρ n (ps.eraseIdx k) (vs.eraseIdx k) := by
  rw [List.eraseIdx_eq_take_drop_succ, List.eraseIdx_eq_take_drop_succ]
  exact (h.take k).append (h.drop (k + 1))
/-- xs.pop() -/
def mPop0 (p : PV) (ps : List PV) (st : Sto) : Res PV := match p, ps with
  | .ref k, [] => match st[k]? with
    | some (.lst xs) => match xs[xs.length - 1]? with
      | some y => .ok y (st.set k (.lst xs.dropLast))
      | none => .bad
    | _ => .bad
  | _, _ => .bad
theorem ok_pop0 : MetOK J mPop0 rPop := by
  intro E H ρ st p ps x xs Q r hx hxs g
  unfold mPop0 at g
  split at g
  · split at g
    · rename_i k _ ys e1
      split at g
      · rename_i y e2
        obtain ⟨_, rfl⟩ := hx
        obtain ⟨vs, h1, h2⟩ := r.lst e1
        obtain ⟨v, e3, rv⟩ := h2.get e2
        have S := Stp.setL r e1 rfl h2.last
        exact ⟨_, vs, v, rfl, hxs.nil, h1, by rw [← h2.length]; exact e3, g _ ρ _ S (S.rv rv)⟩
      · exact g.elim
    · exact g.elim
  · exact g.elim
/-- xs.pop(i), 0 ≤ i -/
def mPop1 (p : PV) (ps : List PV) (st : Sto) : Res PV := match p, ps with
  | .ref k, [.int i] => if decide (0 ≤ i ∧ i < 2 ^ 63) = true then match st[k]? with
    | some (.lst xs) => match xs[i.toNat]? with
      | some y => .ok y (st.set k (.lst (xs.eraseIdx i.toNat)))
      | none => .bad
    | _ => .bad
    else .bad
  | _, _ => .bad
theorem ok_pop1 : MetOK J mPop1 rPopAt := by
  intro E H ρ st p ps x xs Q r hx hxs g
  unfold mPop1 at g
  split at g
  · split at g
    · rename_i k i hd
      have hi := of_decide_eq_true hd
      split at g
      · rename_i ys e1
        split at g
        · rename_i y e2
          obtain ⟨_, rfl⟩ := hx
          obtain ⟨u, rfl, hu⟩ := hxs.one
          have hu : u = .int i := hu
          subst hu
          obtain ⟨vs, h1, h2⟩ := r.lst e1
          obtain ⟨v, e3, rv⟩ := h2.get e2
          have S := Stp.setL r e1 rfl (h2.erase i.toNat)
          have hl : i.toNat < vs.length := (List.getElem?_eq_some_iff.mp e3).1
          refine ⟨_, vs, i, i.toNat, v, rfl, rfl, h1, by omega, by omega, ?_, e3, g _ ρ _ S (S.rv rv)⟩
          unfold seqIndex?
          have h0 : ¬ i < 0 := by omega
          dsimp only
          rw [if_neg h0, if_pos]
          rw [Bool.and_eq_true]
          exact ⟨decide_eq_true hi.1, decide_eq_true (by omega)⟩
        · exact g.elim
      · exact g.elim
    · exact g.elim
  · exact g.elim
end
end Mi
end
section
set_option maxRecDepth 100000
set_option maxHeartbeats 4000000
namespace Mi
open PySem PySem.Spec PyProof.Rows L2
open Sem (wp)
/-! ### a dict beside tuples: never equal -/
theorem dict_eq_tup (l b : Addr) (dd dd2 : Option Addr) (dt : Data) (its2 : Array Value) (n2 : Nat) (sl sl2 : Array (Option Value)) :
    Meets (Builtin.«dict.__eq__» ⟨[.ref l, .ref b], []⟩) (fun _ R s => s.heap.get? l = some { cls := .type "dict", dict := dd, data := dt, slots := sl } ∧ s.heap.get? b = some { cls := .type "tuple", dict := dd2, data := .seq its2 n2, slots := sl2 } ∧
      R (.ok (.ret .notImplemented)) s) :=
  .of_wp fun prog w A R s h => by
    obtain ⟨h0, gens, drawn, toks, os⟩ := s
    obtain ⟨q1, q2, q3⟩ := h
    have sub1 := F.sub_tuple_dict
    have sub2 := F.sub_dict_tuple
    wp_walk using wpAny_loadPart' q1, wpAny_loadPart' q2
    exact ⟨_, rfl, q3⟩
theorem tup_eq_dict (l b : Addr) (dd dd2 : Option Addr) (dt : Data) (its2 : Array Value) (n2 : Nat) (sl sl2 : Array (Option Value)) :
    Meets (Builtin.«tuple.__eq__» ⟨[.ref b, .ref l], []⟩) (fun _ R s => s.heap.get? l = some { cls := .type "dict", dict := dd, data := dt, slots := sl } ∧ s.heap.get? b = some { cls := .type "tuple", dict := dd2, data := .seq its2 n2, slots := sl2 } ∧
      R (.ok (.ret .notImplemented)) s) :=
  .of_wp fun prog w A R s h => by
    obtain ⟨h0, gens, drawn, toks, os⟩ := s
    obtain ⟨q1, q2, q3⟩ := h
    have sub1 := F.sub_tuple_dict
    have sub2 := F.sub_dict_tuple
    wp_walk using wpAny_loadPart' q1, wpAny_loadPart' q2
    exact ⟨_, rfl, q3⟩
theorem eqAt_tup_dict {A : Around} {s : Shared} {b l : Addr} {its : Array Value} {o : Obj} (hb : s.heap.IsTuple b its) (hl : s.heap.get? l = some o) (hc : o.cls = .type "dict") (hu : A.units < cLine) : SeqAt.EqAt A s (.ref b) (.ref l) false := by
  obtain ⟨⟨c2, d2, t2, s2⟩, ho2, hc2, n2, hd2⟩ := hb
  obtain ⟨c1, d1, t1, s1⟩ := o
  simp only at hc hc2 hd2
  subst hc hc2 hd2
  have hne : b ≠ l := fun e => by
    rw [e, hl] at ho2
    exact absurd (congrArg Obj.cls (Option.some.inj ho2)) (by simp)
  refine .of_refs hne fun prog w E Q h => ?_
  exact SeqAt.rc_eq_decline_or (k := false) ⟨_, ho2, rfl⟩ ⟨_, hl, rfl⟩ (by decide) F.sub_dict_tuple F.slot_tuple_eq F.slot_dict_eq_refl
    (fun _ hq => call_meets F.slot_tuple_eq ⟨_, ho2, rfl⟩ F.entry_tuple_eq (F.args_tuple_eq_2 _ _) (tup_eq_dict l b d1 d2 t1 its n2 s1 s2) ⟨hl, ho2, hq⟩)
    (fun _ hq => call_meets F.slot_dict_eq_refl ⟨_, hl, rfl⟩ F.entry_dict_eq (F.args_dict_eq_2 _ _) (dict_eq_tup l b d1 d2 t1 its n2 s1 s2) ⟨hl, ho2, hq⟩)
    (fun _ hq => SeqAt.wpAny_isSame_ref_other' hne ho2 hl (by simp) hq) (.inr hu) h
/-- a dict in a tuple of tuples: it isn't there -/
def rInDict (K : PySem.W.Frag) : R2 := fun x y H Q => ∃ a b kvs vs, x = .ref a ∧ H a = some (.dK kvs) ∧ y = .ref b ∧ SqT K H b vs ∧ (∀ v ∈ vs, ∃ t us, v = .ref t ∧ SqT K H t us) ∧ Q (.bl false) H
theorem paired_back {α β : Type} {R : α → β → Prop} : ∀ {xs : List α} {ys : List β}, Paired R xs ys → ∀ y ∈ ys, ∃ x ∈ xs, R x y
  | _, _, .nil, x, h => by cases h
  | _, _, .cons r t, x, h => by
    rcases List.mem_cons.mp h with rfl | h
    · exact ⟨_, List.mem_cons_self, r⟩
    · obtain ⟨z, hz, q⟩ := paired_back t x h
      exact ⟨z, List.mem_cons_of_mem _ hz, q⟩
section
variable {X : Cx} {J : Jx}
theorem op_inDict (hu : X.A.units + 65 < cLine) : OpR X (compareOp .In) (rInDict X.K) := by
  intro pins s σ H x y v u Q I rx ry h
  obtain ⟨a, b, kvs, vs, rfl, ha, rfl, hb, hall, q⟩ := h
  cases rx
  cases ry
  obtain ⟨its, rv, tp, _⟩ := I.tuple hb
  obtain ⟨_, _, ws, _, o, es, ep, h1, h2, _⟩ := (show ObjOk X.prog X.w H s.heap a (.dK kvs) from I.hok a _ ha)
  have key : ∀ z ∈ its.toArray, SeqAt.EqAt X.A.in1 s z (.ref a) false := fun z hz => by
    obtain ⟨v, hv, r⟩ := paired_back rv z (by simpa using hz)
    obtain ⟨t, us, rfl, ht⟩ := hall v hv
    have r : z = Value.ref t := r
    subst r
    obtain ⟨its2, _, tp2, _⟩ := I.tuple ht
    exact eqAt_tup_dict (show s.heap.IsTuple t its2.toArray from tp2) h1 h2.1 (by show X.A.units + 1 < cLine; omega)
  refine SeqAt.in_tupleAt (fun _ => false) (show s.heap.IsTuple b its.toArray from tp) key ⟨.bl false, H, I, ?_, q⟩
  show Value.bool _ = Value.bool false
  congr 1
  generalize its.toArray = arr
  simp
def isD (st : Sto) : PV → Bool
  | .ref k => match st[k]? with
    | some (.dct _) => true
    | _ => false
  | _ => false
def allTup : List PV → Bool
  | [] => true
  | .tup _ :: r => allTup r
  | _ :: _ => false
/-- in, also of a dict beside tuples -/
def pInK (x y : PV) (st : Sto) : Res PV := match isD st x, y with
  | true, .tup ys => if allTup ys = true then .ok (.bl false) st else .bad
  | _, _ => pIn x y st
def rInK (K : PySem.W.Frag) : R2 := fun x y H Q => rInDict K x y H Q ∨ rInA K (fun b => b) x y H Q
theorem op_inK (hu : X.A.units + 65 < cLine) : OpR X (compareOp .In) (rInK X.K) := OpR.or (op_inDict hu) (op_inA hu)
theorem rvs_tups {W : Wd} {H : Hp} {ρ : Nat → Addr} {n : Nat} : ∀ {ps : List PV} {vs : List V}, allTup ps = true → RVs W H ρ n ps vs → ∀ v ∈ vs, ∃ t us, v = V.ref t ∧ SqT W.K H t us
  | [], vs, _, h, v, hv => by
    have h : vs = [] := h
    rw [h] at hv
    cases hv
  | p :: ps, vs, e, ⟨w, r, e2, h1, h2⟩, v, hv => by
    subst e2
    cases p <;> simp only [allTup] at e <;> try (cases e; done)
    obtain ⟨t, us, e3, q, _⟩ := h1
    rcases List.mem_cons.mp hv with rfl | hv
    · exact ⟨t, us, e3, q⟩
    · exact rvs_tups e h2 v hv
theorem ok_inK : OpOK J pInK (rInK J.W.K) := by
  intro E H ρ st p p2 x y Q r hx hy g
  unfold pInK at g
  split at g
  · rename_i ys hd
    split at g
    · rename_i hall
      unfold isD at hd
      split at hd
      · rename_i k
        split at hd
        · rename_i kvs e1
          obtain ⟨_, rfl⟩ := hx
          obtain ⟨vs, h1, _⟩ := r.obj k _ e1
          obtain ⟨b, ws, rfl, hq, hv⟩ := hy
          exact .inl ⟨_, b, vs, ws, rfl, h1, rfl, hq, rvs_tups hall hv, g H ρ _ (.refl r) rfl⟩
        · cases hd
      · cases hd
    · exact g.elim
  · exact .inr (ok_in E H ρ st p _ x y Q r hx hy g)
/-- {} -/
def dDict0 : DE := fun _ _ st => .ok (.ref st.length) (st ++ [.dct []])
theorem xe_dict0 {pos : Pos} : PE X (.Dict [] [] pos) (rdE J dDict0) := PE.imp pe_dnewK fun σ H Q h => by
  obtain ⟨ρ, th, env, st, S, g⟩ := h
  exact fun p hp => g _ _ _ (.alloc (so := .dct []) S.rs hp ⟨[], upd_same, rfl⟩ rfl) ⟨by simp, by rw [put_same]⟩
end
end Mi
end
section
set_option maxRecDepth 100000
set_option maxHeartbeats 4000000
namespace Mi
open PySem PySem.Spec PyProof.Rows L2
/-! ### what the printed texts use -/
/-- the world of a law's call -/
abbrev W0 (K : PySem.W.Frag) : Wd := ⟨K, fun _ => none, fun _ => none, 0, []⟩
/-- the law's def answers True at each script -/
def Plain (F : Fn) : Prop := ∀ ns : List Int, ns.length ≤ 63 → (∀ z ∈ ns, Builtin.Int.intBits z ≤ 1048576) → ∃ st, F [.ref 0] [.fz (ns.map .int)] = .ok (.bl true) st
theorem RSt.fz0 {K : PySem.W.Frag} {H : Hp} {a : Addr} {ns : List Int} (h : FzL K H a (ns.map V.int)) : RSt (W0 K) H (fun _ => a) [.fz (ns.map .int)] := by
  refine ⟨fun i j o u ei _ m _ _ => ?_, fun i o e => ?_, fun p hp => nomatch hp⟩
  · cases i with
    | zero =>
      cases ei
      cases m
    | succ i => simp at ei
  · cases i with
    | zero =>
      cases e
      exact ⟨_, h, rvs_of_ints ns⟩
    | succ i => simp at e
theorem spN_law {K : PySem.W.Frag} {F : Fn} (PL : Plain F) {H : Hp} {a : Addr} {ns : List Int} (hl : ns.length ≤ 63) (hb : ∀ z ∈ ns, Builtin.Int.intBits z ≤ 1048576) (h : FzL K H a (ns.map V.int)) : spN (W0 K) 1 F [.ref a] H (fun v _ => v = .bl true) fun _ _ _ => False := by
  obtain ⟨st, e⟩ := PL ns hl hb
  refine ⟨fun _ => a, [.ref 0], [.fz (ns.map .int)], rfl, RSt.fz0 h, ⟨_, _, rfl, ⟨Nat.succ_pos _, rfl⟩, rfl⟩, ?_⟩
  rw [e]
  exact fun H' ρ' x _ hx => hx
theorem lawG0 {l : PySem.W.OpenLaw} {w : World} {K : PySem.W.Frag} {k : Nat} {x : Str} {mg : Str → Option Value} {f : Addr} {h : Heap} {fd : FuncData} {F : Fn} (PL : Plain F) (hb : ∀ (s : Shared) (u : Value), BindsTo s fd ⟨[u], []⟩ [(x, u)])
    (hF : ∀ base : Heap, K.In base → base.Ns mainGlobals mg → FnG l.prog w K mg base k f fd [x] (spN (W0 K) 1 F)) : LawG l w K k 63 x mg f h :=
  ⟨fd, [], _, fun _ hp => (nomatch hp), fun _ hp => (nomatch hp), fun _ hp => (nomatch hp), hb, fun H a ns h1 h2 _ h3 => spN_law PL h1 h2 h3, fun base h1 h2 _ => hF base h1 h2⟩
section
variable {X : Cx} {J : Jx} {x : Str} {pos : Pos}
theorem gl_of (h : X.env.kindOf x = some .globalImplicit) : Gl X x := h
theorem xe_gint {i : Int} (hg : Gl X x) (hm : ∃ t, X.mg x = some (.int i t)) (hd : (x == ("__debug__" : Str)) = false) : PE X (.Name x pos) (rdE J (dC (.int i))) := by
  obtain ⟨t, hm⟩ := hm
  exact xe_glob (p := .int i) (v := .int i) hg hm ⟨t, rfl⟩ (fun _ _ _ => rfl) hd
theorem xe_gstr {s : List Nat} {z : Str} (hz : z = toS s) (hg : Gl X x) (hm : ∃ t, X.mg x = some (.str z t)) (hd : (x == ("__debug__" : Str)) = false) : PE X (.Name x pos) (rdE J (dC (.str s))) := by
  obtain ⟨t, hm⟩ := hm
  exact xe_glob (p := .str s) (v := .str (toS s)) hg hm ⟨t, by rw [hz]⟩ (fun _ _ _ => rfl) hd
theorem u65 {k : Nat} {A : Around} (r : Room k A) : A.units + 65 < cLine := by
  have := r.un
  omega
theorem u66 {k : Nat} {A : Around} (r : Room k A) : A.units + 66 < cLine := by
  have := r.un
  omega
/-- a comprehension's parts, with the context's own facts at hand -/
theorem xc_lc {elt tg iter : Expr} {ifs : List Expr} {scope : Scope} {own : List (Str × Nat)} {pos : Pos} {di : DI} {t : Tg} {ts : DB} {el : DE} (J2 : XK2 X J) (hi : PI X tg iter (rdI J di)) (ok : blkC X.N X.env.scope scope own = true) (hsl : (t.slots.all fun i => (own.map (·.2)).contains i) = true)
    (hg : ∀ (s : Shared) (H : Hp) (C : Addr) (cl : List (Str × Addr)) (fp : List Addr), XK2 (X.blk s H scope (compEnvC scope cl C X.env) fp) J.blk → PG (X.blk s H scope (compEnvC scope cl C X.env) fp) tg (Tg.rd X.K t))
    (ht : ∀ (s : Shared) (H : Hp) (C : Addr) (cl : List (Str × Addr)) (fp : List Addr), XK2 (X.blk s H scope (compEnvC scope cl C X.env) fp) J.blk → PTs (X.blk s H scope (compEnvC scope cl C X.env) fp) ifs (rdB J.blk ts))
    (he : ∀ (s : Shared) (H : Hp) (C : Addr) (cl : List (Str × Addr)) (fp : List Addr), XK2 (X.blk s H scope (compEnvC scope cl C X.env) fp) J.blk → PE (X.blk s H scope (compEnvC scope cl C X.env) fp) elt (rdE J.blk el)) (hs : ∀ x, foldedSetIterable iter X.env x = pure x := by intro _; rfl) :
    PE X (.ListComp elt [⟨tg, iter, ifs, 0⟩] scope pos) (rdE J (dLc di t ts el (own.map (·.2)))) :=
  xe_lc J2 hi ok hsl (fun s H C cl fp => hg s H C cl fp (J2.blk _ _ _ _ _)) (fun s H C cl fp => ht s H C cl fp (J2.blk _ _ _ _ _)) (fun s H C cl fp => he s H C cl fp (J2.blk _ _ _ _ _)) hs
theorem yc_setLc {i : Nat} {y : Str} {py : Pos} {elt tg iter : Expr} {ifs : List Expr} {scope : Scope} {own : List (Str × Nat)} {pos spos : Pos} {di : DI} {t : Tg} {ts : DB} {el : DE} (J2 : XK2 X J) (hy : X.N[i]? = some y) (hyl : X.env.scope.names.lookup y = some .local)
    (hsw : swapsWith (.ListComp elt [⟨tg, iter, ifs, 0⟩] scope pos) (some (.Name y py)) spos.line X.env = pure true) (hi : PI X tg iter (rdI J di)) (ok : blkC X.N X.env.scope scope own = true) (hsl : (t.slots.all fun i => (own.map (·.2)).contains i) = true)
    (hg : ∀ (s : Shared) (H : Hp) (C : Addr) (cl : List (Str × Addr)) (fp : List Addr), XK2 (X.blk s H scope (compEnvC scope cl C X.env) fp) J.blk → PG (X.blk s H scope (compEnvC scope cl C X.env) fp) tg (Tg.rd X.K t))
    (ht : ∀ (s : Shared) (H : Hp) (C : Addr) (cl : List (Str × Addr)) (fp : List Addr), XK2 (X.blk s H scope (compEnvC scope cl C X.env) fp) J.blk → PTs (X.blk s H scope (compEnvC scope cl C X.env) fp) ifs (rdB J.blk ts))
    (he : ∀ (s : Shared) (H : Hp) (C : Addr) (cl : List (Str × Addr)) (fp : List Addr), XK2 (X.blk s H scope (compEnvC scope cl C X.env) fp) J.blk → PE (X.blk s H scope (compEnvC scope cl C X.env) fp) elt (rdE J.blk el)) (hs : ∀ x, foldedSetIterable iter X.env x = pure x := by intro _; rfl) :
    PS X (.Assign [.Name y py] (.ListComp elt [⟨tg, iter, ifs, 0⟩] scope pos) spos) (rdS J (dSet (.nm i) (dLc di t ts el (own.map (·.2))))) :=
  ys_setLc J2 hy hyl hsw hi ok hsl (fun s H C cl fp => hg s H C cl fp (J2.blk _ _ _ _ _)) (fun s H C cl fp => ht s H C cl fp (J2.blk _ _ _ _ _)) (fun s H C cl fp => he s H C cl fp (J2.blk _ _ _ _ _)) hs
end
end Mi
end
section
set_option maxRecDepth 100000
set_option maxHeartbeats 4000000
namespace Mi
open PySem PySem.Spec PyProof.Rows L2
/-! ### what is left behind may be forgotten -/
mutual
def clV (n : Nat) : PV → Bool
  | .tup xs => clVs n xs
  | .ref k => Nat.blt k n
  | .non => true
  | .bl _ => true
  | .int _ => true
  | .str _ => true
  | .fn _ => true
  | .thk => true
def clVs (n : Nat) : List PV → Bool
  | [] => true
  | p :: ps => clV n p && clVs n ps
end
def clKs (n : Nat) : List (Key × PV) → Bool
  | [] => true
  | (_, p) :: ps => clV n p && clKs n ps
def clO (n : Nat) : SO → Bool
  | .lst xs => clVs n xs
  | .dct kvs => clKs n kvs
  | .fz _ => true
  | .dlk kvs => clKs n kvs
def clS (n : Nat) (st : Sto) : Bool := st.all (clO n)
def clE (n : Nat) (e : Ex) : Bool := match e.fld with
  | some (_, p) => clV n p
  | none => true
section
variable {W : Wd} {H : Hp} {ρ : Nat → Addr} {n n' : Nat}
mutual
theorem RV.clo : ∀ (p : PV) (v : V), RV W H ρ n p v → clV n p = true
  | .tup xs, _, ⟨_, vs, _, _, h⟩ => RVs.clo xs vs h
  | .ref k, _, ⟨h, _⟩ => Nat.ble_eq_true_of_le h
  | .non, _, _ => rfl
  | .bl _, _, _ => rfl
  | .int _, _, _ => rfl
  | .str _, _, _ => rfl
  | .fn _, _, _ => rfl
  | .thk, _, _ => rfl
theorem RVs.clo : ∀ (ps : List PV) (vs : List V), RVs W H ρ n ps vs → clVs n ps = true
  | [], _, _ => rfl
  | p :: ps, _, ⟨v, r, _, h, t⟩ => Bool.and_eq_true_iff.mpr ⟨RV.clo p v h, RVs.clo ps r t⟩
end
mutual
theorem RV.cut : ∀ (p : PV) (v : V), RV W H ρ n' p v → clV n p = true → RV W H ρ n p v
  | .tup xs, _, ⟨a, vs, e, q, h⟩, c => ⟨a, vs, e, q, RVs.cut xs vs h c⟩
  | .ref k, _, ⟨_, e⟩, c => ⟨Nat.le_of_ble_eq_true c, e⟩
  | .non, _, h, _ => h
  | .bl _, _, h, _ => h
  | .int _, _, h, _ => h
  | .str _, _, h, _ => h
  | .fn _, _, h, _ => h
  | .thk, _, h, _ => h
theorem RVs.cut : ∀ (ps : List PV) (vs : List V), RVs W H ρ n' ps vs → clVs n ps = true → RVs W H ρ n ps vs
  | [], _, h, _ => h
  | p :: ps, _, ⟨v, r, e, h, t⟩, c => ⟨v, r, e, RV.cut p v h (Bool.and_eq_true_iff.mp c).1, RVs.cut ps r t (Bool.and_eq_true_iff.mp c).2⟩
end
theorem RKs.clo : ∀ (ps : List (Key × PV)) (vs : List (Key × V)), RKs W H ρ n ps vs → clKs n ps = true
  | [], _, _ => rfl
  | (k, p) :: ps, _, ⟨v, r, _, h, t⟩ => Bool.and_eq_true_iff.mpr ⟨RV.clo p v h, RKs.clo ps r t⟩
theorem RKs.cut : ∀ (ps : List (Key × PV)) (vs : List (Key × V)), RKs W H ρ n' ps vs → clKs n ps = true → RKs W H ρ n ps vs
  | [], _, h, _ => h
  | (k, p) :: ps, _, ⟨v, r, e, h, t⟩, c => ⟨v, r, e, RV.cut p v h (Bool.and_eq_true_iff.mp c).1, RKs.cut ps r t (Bool.and_eq_true_iff.mp c).2⟩
theorem RO.clo {o : SO} {a : Addr} (h : RO W H ρ n o a) : clO n o = true := by
  cases o with
  | lst xs =>
    obtain ⟨vs, _, h⟩ := h
    exact h.clo
  | dct xs =>
    obtain ⟨vs, _, h⟩ := h
    exact RKs.clo _ _ h
  | fz xs => rfl
  | dlk xs =>
    obtain ⟨vs, _, _, h⟩ := h
    exact RKs.clo _ _ h
theorem RO.cut {o : SO} {a : Addr} (h : RO W H ρ n' o a) (c : clO n o = true) : RO W H ρ n o a := by
  cases o with
  | lst xs =>
    obtain ⟨vs, q, h⟩ := h
    exact ⟨vs, q, RVs.cut _ _ h c⟩
  | dct xs =>
    obtain ⟨vs, q, h⟩ := h
    exact ⟨vs, q, RKs.cut _ _ h c⟩
  | fz xs => exact h
  | dlk xs =>
    obtain ⟨vs, o, q, h⟩ := h
    exact ⟨vs, o, q, RKs.cut _ _ h c⟩
theorem RSt.clo {st : Sto} (r : RSt W H ρ st) : clS st.length st = true := by
  unfold clS
  refine List.all_eq_true.mpr fun o ho => ?_
  obtain ⟨i, hi, e⟩ := List.mem_iff_getElem.mp ho
  exact (r.obj i o (by rw [List.getElem?_eq_getElem hi, e])).clo
theorem RSt.cut {s g : Sto} (r : RSt W H ρ (s ++ g)) (c : clS s.length s = true) : RSt W H ρ s := by
  have pre : ∀ (i : Nat) (o : SO), s[i]? = some o → (s ++ g)[i]? = some o := fun i o e => by
    rw [List.getElem?_append_left (List.getElem?_eq_some_iff.mp e).1]
    exact e
  refine ⟨fun i j o u ei ej => r.inj i j o u (pre i o ei) (pre j u ej), fun i o e => ?_, r.tab⟩
  refine (r.obj i o (pre i o e)).cut ?_
  unfold clS at c
  exact List.all_eq_true.mp c o (List.mem_of_getElem? e)
theorem Stp.cut {H' : Hp} {ρ' : Nat → Addr} {s g : Sto} (r : Stp W H ρ n H' ρ' (s ++ g)) (c : clS s.length s = true) (h : n ≤ s.length) : Stp W H ρ n H' ρ' s := ⟨r.rs.cut c, r.ext, r.agr, h⟩
end
/-- r says as much as r', and what r' leaves behind is forgotten -/
def LeR (n : Nat) : Res PV → Res PV → Prop
  | .bad, _ => True
  | .ok v s, r => ∃ g, r = .ok v (s ++ g) ∧ clV s.length v = true ∧ clS s.length s = true ∧ n ≤ s.length
  | .exc e s, r => ∃ g, r = .exc e (s ++ g) ∧ clE s.length e = true ∧ clS s.length s = true ∧ n ≤ s.length
theorem Ref.of {F G : Fn} (h : ∀ (ps : List PV) (st : Sto), clVs st.length ps = true → clS st.length st = true → LeR st.length (F ps st) (G ps st)) : Ref F G := by
  intro W E H ρ st ps vs Q r hp g
  have le := h ps st hp.clo r.clo
  cases e : F ps st with
  | bad =>
    rw [e] at g
    exact g.elim
  | ok v s =>
    rw [e] at g le
    obtain ⟨gs, e2, c1, c2, c3⟩ := le
    rw [e2]
    exact fun H' ρ' x s' hx => g H' ρ' x (s'.cut c2 c3) (RV.cut _ _ hx c1)
  | exc x s =>
    rw [e] at g le
    obtain ⟨gs, e2, c1, c2, c3⟩ := le
    rw [e2]
    refine fun H' ρ' c d s' hx => g H' ρ' c d (s'.cut c2 c3) ⟨hx.1, ?_⟩
    have h2 := hx.2
    unfold clE at c1
    cases ef : x.fld with
    | none =>
      rw [ef] at h2
      exact h2
    | some q =>
      rw [ef] at h2 c1
      obtain ⟨f, p⟩ := q
      obtain ⟨dd, v, a1, a2, a3⟩ := h2
      exact ⟨dd, v, a1, a2, RV.cut _ _ a3 c1⟩
theorem Ref.trans {F G K : Fn} (a : Ref F G) (b : Ref G K) : Ref F K := fun W E H ρ st ps vs Q r hp g => b W E H ρ st ps vs Q r hp (a W E H ρ st ps vs Q r hp g)
/-- forgetting by itself -/
def gcR (n : Nat) (r : Res PV) : Res PV := match r with
  | .ok v s => if (clV n v && clS n (s.take n) && Nat.ble n s.length) = true then .ok v (s.take n) else .ok v s
  | .exc e s => if (clE n e && clS n (s.take n) && Nat.ble n s.length) = true then .exc e (s.take n) else .exc e s
  | .bad => .bad
def gcF (F : Fn) : Fn := fun ps st => gcR st.length (F ps st)
theorem gcF_ref (F : Fn) : Ref (gcF F) F := by
  intro W E H ρ st ps vs Q r hp g
  unfold gcF at g
  cases e : F ps st with
  | bad =>
    rw [e] at g
    exact g
  | ok v s =>
    rw [e] at g
    unfold gcR at g
    dsimp only at g
    split at g
    · rename_i h
      rw [Bool.and_eq_true, Bool.and_eq_true] at h
      obtain ⟨⟨h1, h2⟩, h3⟩ := h
      have hl : (s.take st.length).length = st.length := by
        rw [List.length_take]
        exact Nat.min_eq_left (Nat.le_of_ble_eq_true h3)
      refine fun H' ρ' x s' hx => g H' ρ' x (Stp.cut (g := s.drop st.length) ?_ ?_ ?_) ?_
      · rw [List.take_append_drop]
        exact s'
      · rw [hl]
        exact h2
      · rw [hl]
        exact Nat.le_refl _
      · rw [hl]
        exact RV.cut _ _ hx h1
    · exact g
  | exc x s =>
    rw [e] at g
    unfold gcR at g
    dsimp only at g
    split at g
    · rename_i h
      rw [Bool.and_eq_true, Bool.and_eq_true] at h
      obtain ⟨⟨h1, h2⟩, h3⟩ := h
      have hl : (s.take st.length).length = st.length := by
        rw [List.length_take]
        exact Nat.min_eq_left (Nat.le_of_ble_eq_true h3)
      refine fun H' ρ' c d s' hx => g H' ρ' c d (Stp.cut (g := s.drop st.length) ?_ ?_ ?_) ?_
      · rw [List.take_append_drop]
        exact s'
      · rw [hl]
        exact h2
      · rw [hl]
        exact Nat.le_refl _
      · refine ⟨hx.1, ?_⟩
        have h4 := hx.2
        unfold clE at h1
        rw [hl]
        cases ef : x.fld with
        | none =>
          rw [ef] at h4
          exact h4
        | some q =>
          rw [ef] at h4 h1
          obtain ⟨f, p⟩ := q
          obtain ⟨dd, v, a1, a2, a3⟩ := h4
          exact ⟨dd, v, a1, a2, RV.cut _ _ a3 h1⟩
    · exact g
end Mi
end
section
set_option maxRecDepth 100000
set_option maxHeartbeats 4000000
namespace Mi
open PySem PySem.Spec PyProof.Rows L2
/-! ### steps, told plainly -/
section
variable {α β : Type}
theorem b_ok (a : α) (st : Sto) (f : α → Sto → Res β) : Res.bind (.ok a st) f = f a st := rfl
theorem b_bad (f : α → Sto → Res β) : Res.bind .bad f = .bad := rfl
theorem s_ok (env : Env) (a : α) (st : Sto) (f : α → Sto → RS) : Res.s env (.ok a st) f = f a st := rfl
theorem f_rt (v : PV) (st : Sto) : RS.fin (.rt v st) = .ok v st := rfl
theorem f_nx (env : Env) (st : Sto) : RS.fin (.nx env st) = .ok .non st := rfl
theorem e_len {s : List Nat} (st : Sto) (h : szOk s.length = true) : fLen [.str s] st = .ok (.int s.length) st := by
  show (if szOk s.length = true then _ else _) = _
  rw [if_pos h]
theorem e_le (i j : Int) (st : Sto) : pLe (.int i) (.int j) st = .ok (.bl (decide (i ≤ j))) st := rfl
theorem e_lt (i j : Int) (st : Sto) : pLt (.int i) (.int j) st = .ok (.bl (decide (i < j))) st := rfl
theorem e_ge (i j : Int) (st : Sto) : pGe (.int i) (.int j) st = .ok (.bl (decide (j ≤ i))) st := rfl
theorem e_gt (i j : Int) (st : Sto) : pGt (.int i) (.int j) st = .ok (.bl (decide (j < i))) st := rfl
theorem e_add (i j : Int) (st : Sto) : pAdd (.int i) (.int j) st = .ok (.int (i + j)) st := rfl
theorem e_sub (i j : Int) (st : Sto) : pSub (.int i) (.int j) st = .ok (.int (i - j)) st := rfl
theorem e_mul {i j : Int} (st : Sto) (h : cMul i j = true) : pMul (.int i) (.int j) st = .ok (.int (i * j)) st := by
  show (if cMul i j = true then _ else _) = _
  rw [if_pos h]
theorem e_fdiv {i j : Int} (st : Sto) (h : cDiv i j = true) : pFdiv (.int i) (.int j) st = .ok (.int (i / j)) st := by
  show (if cDiv i j = true then _ else _) = _
  rw [if_pos h]
theorem e_mod {i j : Int} (st : Sto) (h : 0 < j) : pMod (.int i) (.int j) st = .ok (.int (i % j)) st := by
  show (if cPos i j = true then _ else _) = _
  rw [if_pos (show cPos i j = true from decide_eq_true h)]
theorem e_all {k : Nat} {st : Sto} {ys : List PV} {bs : List Bool} (h1 : lstAt st k = some ys) (h2 : blsOf ys = some bs) : fAll [.ref k] st = .ok (.bl (bs.all id)) st := by
  unfold fAll fBls
  dsimp only
  rw [h1]
  dsimp only
  rw [h2]
theorem bls_map (f : α → Bool) : ∀ xs : List α, blsOf (xs.map fun x => .bl (f x)) = some (xs.map f)
  | [] => rfl
  | x :: xs => by
    rw [List.map_cons]
    unfold blsOf
    rw [bls_map f xs]
    rfl
theorem get_add (s r : Sto) (i : Nat) : (s ++ r)[s.length + i]? = r[i]? := by
  rw [List.getElem?_append_right (Nat.le_add_right _ _), Nat.add_sub_cancel_left]
theorem get_end0 (s r : Sto) : (s ++ r)[s.length]? = r[0]? := get_add s r 0
theorem set_add (s r : Sto) (i : Nat) (o : SO) : (s ++ r).set (s.length + i) o = s ++ r.set i o := by
  rw [List.set_append_right _ _ (Nat.le_add_right _ _), Nat.add_sub_cancel_left]
theorem set_end0 (s r : Sto) (o : SO) : (s ++ r).set s.length o = s ++ r.set 0 o := set_add s r 0 o
theorem lst_of {s : Sto} {k : Nat} {xs : List PV} (h : s[k]? = some (.lst xs)) : lstAt s k = some xs := by
  unfold lstAt
  rw [h]
theorem e_lenR {s : Sto} {k : Nat} {xs : List PV} (h : lstAt s k = some xs) : fLen [.ref k] s = .ok (.int xs.length) s := by
  show (match lstAt s k with
    | some ys => Res.ok (PV.int ys.length) s
    | none => .bad) = _
  rw [h]
theorem e_isLst {s : Sto} {k : Nat} {xs : List PV} (h : lstAt s k = some xs) : isLst (.ref k) s = true := by
  show (lstAt s k).isSome = true
  rw [h]
  rfl
theorem e_rep {s : Sto} {k : Nat} {xs : List PV} {n : Int} (h : s[k]? = some (.lst xs)) (hn : (decide (-(2 ^ 63) ≤ n) && decide (n < 2 ^ 63) && szOk (xs.length * n.toNat)) = true) : pMul (.ref k) (.int n) s = .ok (.ref s.length) (s ++ [.lst (List.replicate n.toNat xs).flatten]) := by
  show (match s[k]? with
    | some (.lst xs) => if (decide (-(2 ^ 63) ≤ n) && decide (n < 2 ^ 63) && szOk (xs.length * n.toNat)) = true then Res.ok (PV.ref s.length) (s ++ [SO.lst (List.replicate n.toNat xs).flatten]) else .bad
    | _ => .bad) = _
  rw [h]
  dsimp only
  rw [if_pos hn]
theorem e_extend {s : Sto} {a b : Nat} {xs zs : List PV} (ha : s[a]? = some (.lst xs)) (hb : s[b]? = some (.lst zs)) (hz : szOk (xs.length + zs.length) = true) : mExtend (.ref a) [.ref b] s = .ok .non (s.set a (.lst (xs ++ zs))) := by
  unfold mExtend
  dsimp only
  rw [hb]
  dsimp only
  unfold onLst
  dsimp only
  rw [ha]
  dsimp only
  rw [if_pos hz]
theorem e_ixR {s : Sto} {k : Nat} {xs : List PV} {i : Int} {v : PV} (h : lstAt s k = some xs) (hi : atI xs i = some v) : pIx (.ref k) (.int i) s = .ok v s := by
  show (match lstAt s k with
    | some xs => match atI xs i with
      | some v => Res.ok v s
      | none => .bad
    | none => .bad) = _
  rw [h]
  dsimp only
  rw [hi]
theorem e_ixS {s : Sto} {x : List Nat} {i : Int} {c : Nat} (hz : szOk x.length = true) (hi : atI x i = some c) : pIx (.str x) (.int i) s = .ok (.str [c]) s := by
  show (if szOk x.length = true then (match atI x i with
    | some c => Res.ok (PV.str [c]) s
    | none => .bad) else .bad) = _
  rw [if_pos hz, hi]
theorem e_append {s : Sto} {a : Nat} {xs : List PV} {p : PV} (ha : s[a]? = some (.lst xs)) (hz : xs.length < 16777216) : mAppend (.ref a) [p] s = .ok .non (s.set a (.lst (xs ++ [p]))) := by
  unfold mAppend
  dsimp only
  unfold onLst
  dsimp only
  rw [ha]
  dsimp only
  have hb : Nat.blt xs.length 16777216 = true := Nat.ble_eq_true_of_le hz
  rw [if_pos hb]
theorem lst_end (s : Sto) (xs : List PV) (r : Sto) : lstAt (s ++ .lst xs :: r) s.length = some xs := by
  unfold lstAt
  rw [List.getElem?_append_right (Nat.le_refl _), Nat.sub_self]
  rfl
end
/-! ### comprehensions and loops, told plainly -/
theorem get_end (s : Sto) (a : SO) (r : Sto) : (s ++ a :: r)[s.length]? = some a := by
  rw [List.getElem?_append_right (Nat.le_refl _), Nat.sub_self]
  rfl
theorem set_end (s : Sto) (a b : SO) (r : Sto) : (s ++ a :: r).set s.length b = s ++ b :: r := by
  rw [List.set_append_right _ _ (Nat.le_refl _), Nat.sub_self]
  rfl
/-- elements that leave the store alone -/
theorem lcV_map {i : Nat} {ts : DB} {el : DE} {p : PV → Bool} {h : PV → PV} {own : List Nat} {th : Th} {env : Env} {s : Sto} : ∀ (xs acc : List PV), acc.length + xs.length ≤ 16777216 → (∀ x ∈ xs, ∀ acc', ts th (env.set i (some x)) (s ++ [.lst acc']) = .ok (p x) (s ++ [.lst acc'])) →
    (∀ x ∈ xs, p x = true → ∀ acc', el th (env.set i (some x)) (s ++ [.lst acc']) = .ok (h x) (s ++ [.lst acc'])) →
    lcV (.nm i) ts el own th s.length xs env (s ++ [.lst acc]) = .ok () (s ++ [.lst (acc ++ (xs.filter p).map h)])
  | [], acc, _, _, _ => by
    simp [lcV]
  | x :: xs, acc, hz, ht, he => by
    have h1 := ht x List.mem_cons_self acc
    rw [List.length_cons] at hz
    unfold lcV
    simp only [Tg.set]
    rw [h1]
    dsimp only [Res.bind]
    cases hp : p x with
    | true =>
      rw [he x List.mem_cons_self hp acc]
      dsimp only
      rw [get_end]
      dsimp only
      have hb : Nat.blt acc.length 16777216 = true := Nat.ble_eq_true_of_le (by omega)
      rw [if_pos hb, set_end, lcV_map xs (acc ++ [h x]) (by rw [List.length_append, List.length_singleton]; omega) (fun y hy => ht y (List.mem_cons_of_mem _ hy)) (fun y hy => he y (List.mem_cons_of_mem _ hy)), List.filter_cons_of_pos hp, List.map_cons, List.append_assoc]
      rfl
    | false =>
      dsimp only
      rw [lcV_map xs acc (by omega) (fun y hy => ht y (List.mem_cons_of_mem _ hy)) (fun y hy => he y (List.mem_cons_of_mem _ hy)), List.filter_cons_of_neg (by rw [hp]; decide)]
/-- the same over a list of the store -/
theorem lcL_map {i : Nat} {ts : DB} {el : DE} {p : PV → Bool} {h : PV → PV} {own : List Nat} {th : Th} {env : Env} {s : Sto} {k : Nat} {ys : List PV} (hk : lstAt s k = some ys) : ∀ (xs acc : List PV) (j : Nat) (m : Nat), ys.drop j = xs → xs.length < m → acc.length + xs.length ≤ 16777216 →
    (∀ x ∈ xs, ∀ acc', ts th (env.set i (some x)) (s ++ [.lst acc']) = .ok (p x) (s ++ [.lst acc'])) → (∀ x ∈ xs, p x = true → ∀ acc', el th (env.set i (some x)) (s ++ [.lst acc']) = .ok (h x) (s ++ [.lst acc'])) →
    lcL (.nm i) ts el own th s.length (lstG k) m j env (s ++ [.lst acc]) = .ok () (s ++ [.lst (acc ++ (xs.filter p).map h)]) := by
  have hkl : k < s.length := by
    unfold lstAt at hk
    by_cases hl : k < s.length
    · exact hl
    · rw [List.getElem?_eq_none (Nat.le_of_not_lt hl)] at hk
      cases hk
  have hg : ∀ j acc, lstG k j (s ++ [SO.lst acc]) = some ys[j]? := fun j acc => by
    unfold lstG lstAt
    rw [List.getElem?_append_left hkl]
    unfold lstAt at hk
    rw [hk]
  intro xs
  induction xs with
  | nil =>
    intro acc j m hd hm hz ht he
    cases m with
    | zero => cases hm
    | succ m =>
      unfold lcL
      rw [hg]
      have : ys[j]? = none := List.getElem?_eq_none (List.drop_eq_nil_iff.mp hd)
      rw [this]
      simp
  | cons x xs ih =>
    intro acc j m hd hm hz ht he
    cases m with
    | zero => cases hm
    | succ m =>
      rw [List.length_cons] at hz hm
      obtain ⟨e1, e2⟩ := drop_get hd
      have h1 := ht x List.mem_cons_self acc
      unfold lcL
      rw [hg, e1]
      simp only [Tg.set]
      rw [h1]
      dsimp only [Res.bind]
      cases hp : p x with
      | true =>
        rw [he x List.mem_cons_self hp acc]
        dsimp only
        rw [get_end]
        dsimp only
        have hb : Nat.blt acc.length 16777216 = true := Nat.ble_eq_true_of_le (by omega)
        rw [if_pos hb, set_end, ih (acc ++ [h x]) (j + 1) m e2 (by omega) (by rw [List.length_append, List.length_singleton]; omega) (fun y hy => ht y (List.mem_cons_of_mem _ hy)) (fun y hy => he y (List.mem_cons_of_mem _ hy)), List.filter_cons_of_pos hp, List.map_cons, List.append_assoc]
        rfl
      | false =>
        dsimp only
        rw [ih acc (j + 1) m e2 (by omega) (by omega) (fun y hy => ht y (List.mem_cons_of_mem _ hy)) (fun y hy => he y (List.mem_cons_of_mem _ hy)), List.filter_cons_of_neg (by rw [hp]; decide)]
/-- a comprehension over values -/
theorem dLc_vals {it : DI} {i : Nat} {ts : DB} {el : DE} {p : PV → Bool} {h : PV → PV} {own : List Nat} {th : Th} {env : Env} {st s : Sto} {xs : List PV} (hit : it th env st = .ok (.vals xs) s) (hz : xs.length ≤ 16777216) (ht : ∀ x ∈ xs, ∀ acc', ts th ((wipeE env own).set i (some x)) (s ++ [.lst acc']) = .ok (p x) (s ++ [.lst acc']))
    (he : ∀ x ∈ xs, p x = true → ∀ acc', el th ((wipeE env own).set i (some x)) (s ++ [.lst acc']) = .ok (h x) (s ++ [.lst acc'])) : dLc it (.nm i) ts el own th env st = .ok (.ref s.length) (s ++ [.lst ((xs.filter p).map h)]) := by
  unfold dLc
  rw [hit]
  dsimp only [Res.bind]
  rw [lcV_map xs [] (by simpa using hz) ht he]
  rfl
/-- a comprehension over a list of the store -/
theorem dLc_list {it : DI} {i : Nat} {ts : DB} {el : DE} {p : PV → Bool} {h : PV → PV} {own : List Nat} {th : Th} {env : Env} {st s : Sto} {xs : List PV} {k m : Nat} (hit : it th env st = .ok (.dyn m (lstG k)) s) (hk : lstAt s k = some xs) (hm : xs.length < m) (hz : xs.length ≤ 16777216)
    (ht : ∀ x ∈ xs, ∀ acc', ts th ((wipeE env own).set i (some x)) (s ++ [.lst acc']) = .ok (p x) (s ++ [.lst acc']))
    (he : ∀ x ∈ xs, p x = true → ∀ acc', el th ((wipeE env own).set i (some x)) (s ++ [.lst acc']) = .ok (h x) (s ++ [.lst acc'])) : dLc it (.nm i) ts el own th env st = .ok (.ref s.length) (s ++ [.lst ((xs.filter p).map h)]) := by
  unfold dLc
  rw [hit]
  dsimp only [Res.bind]
  rw [lcL_map hk xs [] 0 m rfl hm (by simpa using hz) ht he]
  rfl
/-- elements that change the store: what is kept true of it -/
theorem lcV_inv {B i D : Nat} {el : DE} {own : List Nat} {th : Th} {env : Env} {I : Nat → Sto → Prop} {P : PV → Prop} (hset : ∀ n st acc, I n st → I n (st.set D (.lst acc))) : ∀ (xs : List PV), (∀ x ∈ xs, ∀ n st acc, n < B → I n st → st[D]? = some (.lst acc) → ∃ y st', el th (env.set i (some x)) st = .ok y st' ∧ P y ∧ I (n + 1) st' ∧ st'[D]? = some (.lst acc)) →
    ∀ (st : Sto) (acc : List PV) (n : Nat), n + xs.length ≤ B → I n st → st[D]? = some (.lst acc) → acc.length + xs.length ≤ 16777216 → ∃ ys st', lcV (.nm i) dYes el own th D xs env st = .ok () st' ∧ st'[D]? = some (.lst (acc ++ ys)) ∧ ys.length = xs.length ∧ (∀ y ∈ ys, P y) ∧ I (n + xs.length) st'
  | [], _, st, acc, n, _, hI, hD, _ => ⟨[], st, rfl, (by rw [List.append_nil]; exact hD), rfl, (fun y hy => nomatch hy), hI⟩
  | x :: xs, he, st, acc, n, hB, hI, hD, hz => by
    rw [List.length_cons] at hz hB
    obtain ⟨y, st1, e1, p1, i1, d1⟩ := he x List.mem_cons_self n st acc (by omega) hI hD
    have hl : D < st1.length := (List.getElem?_eq_some_iff.mp d1).1
    obtain ⟨ys, st2, e2, d2, l2, p2, i2⟩ := lcV_inv hset xs (fun z hz => he z (List.mem_cons_of_mem _ hz)) (st1.set D (.lst (acc ++ [y]))) (acc ++ [y]) (n + 1) (by omega) (hset _ _ _ i1) (List.getElem?_set_self hl) (by rw [List.length_append, List.length_singleton]; omega)
    refine ⟨y :: ys, st2, ?_, ?_, by rw [List.length_cons, List.length_cons, l2], fun z hz => ?_, ?_⟩
    · unfold lcV
      simp only [Tg.set, dYes, Res.bind]
      rw [e1]
      dsimp only [Res.bind]
      rw [d1]
      dsimp only
      have hb : Nat.blt acc.length 16777216 = true := Nat.ble_eq_true_of_le (by omega)
      rw [if_pos hb]
      exact e2
    · rw [d2, List.append_assoc]
      rfl
    · rcases List.mem_cons.mp hz with rfl | hz
      · exact p1
      · exact p2 z hz
    · rw [List.length_cons, Nat.add_comm xs.length 1, ← Nat.add_assoc]
      exact i2
/-- a loop over values: what is kept true -/
theorem forV_inv {B : Nat} {t : Tg} {body : DS} {th : Th} {I : Nat → Env → Sto → Prop} : ∀ (xs : List PV), (∀ x ∈ xs, ∀ n env st, n < B → I n env st → ∃ env1, t.set x env = some env1 ∧ ∃ env2 st2, body th env1 st = .nx env2 st2 ∧ I (n + 1) env2 st2) →
    ∀ (n : Nat) (env : Env) (st : Sto), n + xs.length ≤ B → I n env st → ∃ env' st', forV t body th xs env st = .nx env' st' ∧ I (n + xs.length) env' st'
  | [], _, n, env, st, _, h => ⟨env, st, rfl, h⟩
  | x :: xs, hb, n, env, st, hB, h => by
    rw [List.length_cons] at hB
    obtain ⟨env1, e1, env2, st2, e2, h2⟩ := hb x List.mem_cons_self n env st (by omega) h
    obtain ⟨env3, st3, e3, h3⟩ := forV_inv xs (fun y hy => hb y (List.mem_cons_of_mem _ hy)) (n + 1) env2 st2 (by omega) h2
    refine ⟨env3, st3, ?_, ?_⟩
    · unfold forV
      rw [e1]
      dsimp only
      rw [e2]
      exact e3
    · rw [List.length_cons, Nat.add_comm xs.length 1, ← Nat.add_assoc]
      exact h3
/-- a loop over a list of the store that stays as it is -/
theorem forL_inv {t : Tg} {body : DS} {th : Th} {I : Nat → Env → Sto → Prop} {k : Nat} {ys : List PV} (hk : ∀ n env st, I n env st → lstAt st k = some ys) (hb : ∀ x ∈ ys, ∀ n env st, I n env st → ∃ env1, t.set x env = some env1 ∧ ∃ env2 st2, body th env1 st = .nx env2 st2 ∧ I (n + 1) env2 st2) :
    ∀ (xs : List PV) (j m n : Nat) (env : Env) (st : Sto), ys.drop j = xs → xs.length < m → I n env st → ∃ env' st', forL t body th (lstG k) m j env st = .nx env' st' ∧ I (n + xs.length) env' st' := by
  intro xs
  induction xs with
  | nil =>
    intro j m n env st hd hm h
    cases m with
    | zero => cases hm
    | succ m =>
      refine ⟨env, st, ?_, h⟩
      unfold forL lstG
      rw [hk n env st h]
      dsimp only
      rw [List.getElem?_eq_none (List.drop_eq_nil_iff.mp hd)]
  | cons x xs ih =>
    intro j m n env st hd hm h
    cases m with
    | zero => cases hm
    | succ m =>
      rw [List.length_cons] at hm
      obtain ⟨d1, d2⟩ := drop_get hd
      obtain ⟨env1, e1, env2, st2, e2, h2⟩ := hb x (List.mem_of_getElem? d1) n env st h
      obtain ⟨env3, st3, e3, h3⟩ := ih (j + 1) m (n + 1) env2 st2 d2 (by omega) h2
      refine ⟨env3, st3, ?_, ?_⟩
      · unfold forL lstG
        rw [hk n env st h]
        dsimp only
        rw [d1]
        dsimp only
        rw [e1]
        dsimp only
        rw [e2]
        exact e3
      · rw [List.length_cons, Nat.add_comm xs.length 1, ← Nat.add_assoc]
        exact h3
end Mi
end
section
set_option maxRecDepth 100000
set_option maxHeartbeats 4000000
/-! MiLaw: what the plain laws share (first proved for k01) -/
namespace Mi
open PySem PySem.Spec PyProof.Rows L2
theorem e_lst {xs : List PV} (h : szOk xs.length = true) (st : Sto) : fLst xs st = .ok (.ref st.length) (st ++ [.lst xs]) := by
  unfold fLst
  rw [if_pos h]
theorem e_tup {xs : List PV} (h : szOk xs.length = true) (st : Sto) : fTup xs st = .ok (.tup xs) st := by
  unfold fTup
  rw [if_pos h]
theorem e_join {a : List Nat} {k : Nat} {s : Sto} {ys : List PV} {ss : List (List Nat)} (h1 : lstAt s k = some ys) (h2 : strsOf ys = some ss) (h3 : szOk ((ss.map List.length).sum + ss.length * a.length) = true) : mJoin (.str a) [.ref k] s = .ok (.str (glue a ss)) s := by
  unfold mJoin
  dsimp only [seqOf]
  rw [h1]
  dsimp only
  rw [h2]
  dsimp only
  rw [if_pos h3]
theorem e_setL {s : Sto} {k m : Nat} {j : Int} {xs : List PV} {v : PV} (h : s[k]? = some (.lst xs)) (hm : ixN xs.length j = some m) : pSetL (.ref k) (.int j) v s = some (s.set k (.lst (xs.set m v))) := by
  unfold pSetL
  dsimp only
  rw [h]
  dsimp only
  rw [hm]
theorem e_ixT {xs : List PV} {i : Int} {v : PV} (s : Sto) (hi : atI xs i = some v) : pIx (.tup xs) (.int i) s = .ok v s := by
  show (match atI xs i with
    | some v => Res.ok v s
    | none => .bad) = _
  rw [hi]
theorem e_addS {a b : List Nat} (st : Sto) (h : szOk (a.length + b.length) = true) : pAdd (.str a) (.str b) st = .ok (.str (a ++ b)) st := by
  show (if szOk (a.length + b.length) = true then _ else _) = _
  rw [if_pos h]
theorem ne_str (x y : List Nat) (st : Sto) : pNe (.str x) (.str y) st = .ok (.bl (!decide (x = y))) st := rfl
theorem e_str0 {f : Str → Str} {x : List Nat} (st : Sto) (h : szOk x.length = true) : mStr0 f (.str x) [] st = .ok (.str (ofS (f (toS x)))) st := by
  show (if szOk x.length = true then _ else _) = _
  rw [if_pos h]
def Fz (st : Sto) : Prop := ∃ ns : List Int, st[0]? = some (.fz (ns.map .int))
theorem Fz.ne0 {st : Sto} {k : Nat} {xs : List PV} (h : Fz st) (hk : st[k]? = some (.lst xs)) : k ≠ 0 := by
  rintro rfl
  obtain ⟨ns, h⟩ := h
  rw [h] at hk
  cases hk
theorem Fz.set {st : Sto} {k : Nat} {o : SO} (h : Fz st) (hk : k ≠ 0) : Fz (st.set k o) := by
  obtain ⟨ns, h⟩ := h
  exact ⟨ns, by rw [List.getElem?_set_ne hk]; exact h⟩
theorem Fz.app {st g : Sto} (h : Fz st) : Fz (st ++ g) := by
  obtain ⟨ns, h⟩ := h
  exact ⟨ns, by rw [List.getElem?_append_left (List.getElem?_eq_some_iff.mp h).1]; exact h⟩
def Well (w n : Nat) (st : Sto) : Prop := ∃ a b c : Int, st[w]? = some (.lst [.int a, .int b, .int c]) ∧ 0 ≤ c ∧ c ≤ n ∧ Fz st
def Same (w : Nat) (st st' : Sto) : Prop := st'.length = st.length ∧ ∀ i, i ≠ w → st'[i]? = st[i]?
theorem Same.set {w : Nat} {st : Sto} {o : SO} : Same w st (st.set w o) := ⟨List.length_set .., fun i h => List.getElem?_set_ne (Ne.symm h)⟩
theorem Same.trans {w : Nat} {a b c : Sto} (h : Same w a b) (k : Same w b c) : Same w a c := ⟨k.1.trans h.1, fun i hi => (k.2 i hi).trans (h.2 i hi)⟩
theorem log_small {x : Int} {k : Nat} (h : x.natAbs ≤ 2 ^ k) : x.natAbs.log2 ≤ k := by
  by_cases h0 : x.natAbs = 0
  · rw [h0]
    exact Nat.zero_le _
  · rw [← Nat.lt_succ_iff, Nat.log2_lt h0]
    exact Nat.lt_of_le_of_lt h (Nat.pow_lt_pow_right (by decide) (Nat.lt_succ_self _))
theorem cMul_small {x y : Int} {k l : Nat} (h1 : x.natAbs ≤ 2 ^ k) (h2 : y.natAbs ≤ 2 ^ l) (h : k + l < 1000000) : cMul x y = true := by
  unfold cMul
  refine decide_eq_true ?_
  have a := log_small h1
  have b := log_small h2
  omega
theorem e_int (i : Int) (st : Sto) : fInt [.int i] st = .ok (.int i) st := rfl
theorem Well.fz {w n : Nat} {st : Sto} (h : Well w n st) : Fz st := by
  obtain ⟨a, b, c, _, _, _, hz⟩ := h
  exact hz
theorem Well.set {w n D : Nat} {st : Sto} {o : SO} (h : Well w n st) (hD : D ≠ w) (h0 : D ≠ 0) : Well w n (st.set D o) := by
  obtain ⟨a, b, c, hg, h1, h2, hz⟩ := h
  exact ⟨a, b, c, by rw [List.getElem?_set_ne hD]; exact hg, h1, h2, hz.set h0⟩
theorem Well.app {w n : Nat} {st g : Sto} (h : Well w n st) : Well w n (st ++ g) := by
  obtain ⟨a, b, c, hg, h1, h2, hz⟩ := h
  exact ⟨a, b, c, by rw [List.getElem?_append_left (List.getElem?_eq_some_iff.mp hg).1]; exact hg, h1, h2, hz.app⟩
theorem Well.mono {w n m : Nat} {st : Sto} (h : Well w n st) (hm : n ≤ m) : Well w m st := by
  obtain ⟨a, b, c, hg, h1, h2, hz⟩ := h
  exact ⟨a, b, c, hg, h1, by omega, hz⟩
theorem Well.lt {w n : Nat} {st : Sto} (h : Well w n st) : w < st.length := by
  obtain ⟨a, b, c, hg, _⟩ := h
  exact (List.getElem?_eq_some_iff.mp hg).1
theorem get_app {st g : Sto} {i : Nat} {o : SO} (h : st[i]? = some o) : (st ++ g)[i]? = some o := by
  rw [List.getElem?_append_left (List.getElem?_eq_some_iff.mp h).1]
  exact h
theorem get_lt {st : Sto} {i : Nat} {o : SO} (h : st[i]? = some o) : i < st.length := (List.getElem?_eq_some_iff.mp h).1
theorem okI_small {j : Int} (h : -1000 ≤ j) (h2 : j ≤ 1000) : okI j = true := by
  unfold okI
  rw [decide_eq_true (by omega), decide_eq_true (by omega)]
  rfl
theorem e_rng1 {j : Int} (st : Sto) (h : okI j = true) : fRng1 [.int j] st = .ok (.vals (rngV 0 1 j.toNat)) st := by
  show (if okI j = true then _ else _) = _
  rw [if_pos h]
theorem strs_self : ∀ ss : List (List Nat), strsOf (ss.map PV.str) = some ss
  | [] => rfl
  | x :: r => by
    rw [List.map_cons]
    unfold strsOf
    rw [strs_self r]
theorem it_list {s : Sto} {k : Nat} {xs : List PV} (h : lstAt s k = some xs) : itOf (.ref k) s = .ok (.dyn (xs.length + 1) (lstG k)) s := by
  unfold itOf
  dsimp only
  rw [h]
theorem ints_self : ∀ ns : List Int, intsOf (ns.map PV.int) = some ns
  | [] => rfl
  | n :: r => by
    rw [List.map_cons]
    unfold intsOf
    rw [ints_self r]
theorem e_abs (i : Int) (st : Sto) : fAbs [.int i] st = .ok (.int (if i < 0 then -i else i)) st := rfl
theorem e_intb (b : Bool) (st : Sto) : fInt [.bl b] st = .ok (.int (if b then 1 else 0)) st := rfl
theorem e_max2 (i j : Int) (st : Sto) : fMax [.int i, .int j] st = .ok (.int (if j > i then j else i)) st := rfl
theorem e_min2 (i j : Int) (st : Sto) : fMin [.int i, .int j] st = .ok (.int (if j < i then j else i)) st := rfl
theorem mk_seq {n : Nat} {A B : DS} {ps : List PV} {env : Mi.Env} {st s s' : Sto} {r : PV} (h1 : A noTh (env0 n ps) st = .nx env s) (h2 : B noTh env s = .rt r s') : mkF n (dSeq A B) ps st = .ok r s' := by
  unfold mkF dSeq
  rw [h1]
  dsimp only
  rw [h2]
  rfl
theorem cut1 (ns : List Int) : ∃ ms : List Int, cutP (ns.map PV.int) none (some 1) = ms.map PV.int := by
  unfold cutP
  rw [← List.map_drop, ← List.map_take]
  exact ⟨_, rfl⟩
theorem eq_lst {s : Sto} {j k : Nat} {xs : List PV} {ds : List PyData} (h : lstAt s j = some xs) (h2 : lstAt s k = some xs) (hd : mapO (dat 59 s) xs = some ds) (hv : PyData.eqv (.list ds) (.list ds) = true) : pNe (.ref j) (.ref k) s = .ok (.bl false) s := by
  have d : ∀ {i : Nat}, lstAt s i = some xs → dat 60 s (.ref i) = some (.list ds) := fun {i} h => by
    show (match lstAt s i with
      | some xs => match mapO (dat 59 s) xs with
        | some ds => some (PyData.list ds)
        | none => none
      | none => none) = _
    rw [h]
    dsimp only
    rw [hd]
  have e : pEqB (.ref j) (.ref k) s = some true := by
    show (match dat 60 s (.ref j) with
      | some d => match dat 60 s (.ref k) with
        | some e => some (PyData.eqv d e)
        | none => none
      | none => none) = _
    rw [d h, d h2]
    dsimp only
    rw [hv]
  unfold pNe
  rw [e]
  rfl
theorem e_addL {s : Sto} {j k : Nat} {xs ys : List PV} (h : s[j]? = some (.lst xs)) (h2 : s[k]? = some (.lst ys)) (hz : szOk (xs.length + ys.length) = true) : pAdd (.ref j) (.ref k) s = .ok (.ref s.length) (s ++ [.lst (xs ++ ys)]) := by
  unfold pAdd
  dsimp only
  rw [h]
  dsimp only
  rw [h2]
  dsimp only
  rw [if_pos hz]
theorem rng_mem {n : Nat} {x : PV} (h : x ∈ rngV 0 1 n) : ∃ i : Nat, x = .int i ∧ i < n := by
  obtain ⟨i, hi⟩ := List.getElem?_of_mem h
  obtain ⟨h1, h2⟩ := rngV_get 1 n 0 i x hi
  exact ⟨i, by rw [h2]; congr 1; omega, h1⟩
theorem sq {A B : DS} {th : Th} {env env2 : Mi.Env} {st st2 : Sto} (h : A th env st = .nx env2 st2) : dSeq A B th env st = B th env2 st2 := by
  unfold dSeq
  rw [h]
end Mi
end
section
set_option maxRecDepth 100000
set_option maxHeartbeats 2000000
/-! MiCut: a part of a text, by its signs -/
namespace Mi
open PySem PySem.Spec PyProof.Rows L2
theorem sl_in {x : List Nat} {i j : Nat} (h : i ≤ j) (h2 : j ≤ x.length) : ofS (Txt.slice (toS x) (some i) (some j)) = (x.drop i).take (j - i) := by
  have e := beq_iff_eq.mp (PyProof.Rows.slice_closes (x := toS x) (i := (i : Int)) (j := (j : Int)) ⟨by omega, by omega, by
    show (j : Int) ≤ ((x.toArray.toList).length : Int)
    simp
    omega⟩)
  rw [e]
  show ((x.drop (i : Int).toNat).take ((j : Int) - (i : Int)).toNat) = _
  have e1 : (i : Int).toNat = i := by omega
  have e2 : ((j : Int) - (i : Int)).toNat = j - i := by omega
  rw [e1, e2]
theorem sl_any {x : List Nat} {i j : Nat} (h : i ≤ j) (h2 : i ≤ x.length) : ofS (Txt.slice (toS x) (some i) (some j)) = (x.drop i).take (j - i) := by
  by_cases hj : j ≤ x.length
  · exact sl_in h hj
  · have e : Txt.slice (toS x) (some (i : Int)) (some (j : Int)) = Txt.slice (toS x) (some (i : Int)) (some (x.length : Int)) := by
      unfold Txt.slice
      have hl : (toS x).length = x.length := str_len x
      rw [hl, SX.idx_hi (by omega)]
    rw [e, sl_in h2 (Nat.le_refl _), List.take_of_length_le (by rw [List.length_drop]; omega), List.take_of_length_le (by rw [List.length_drop]; omega)]
theorem e_cut {x : List Nat} {i j : Nat} (h : i ≤ j) (h2 : i ≤ x.length) (hz : szOk x.length = true) (st : Sto) : fSl (.str x) (some (i : Int)) (some (j : Int)) st = .ok (.str ((x.drop i).take (j - i))) st := by
  unfold fSl
  dsimp only
  rw [if_pos hz, sl_any h h2]
theorem ofS_to (x : List Nat) : ofS (toS x) = x := by
  show x.toArray.toList = x
  simp
theorem e_cutTo {x : List Nat} {j : Nat} (hz : szOk x.length = true) (st : Sto) : fSl (.str x) none (some (j : Int)) st = .ok (.str (x.take j)) st := by
  unfold fSl
  dsimp only
  rw [if_pos hz, show Txt.slice (toS x) none (some (j : Int)) = toS (x.take (j : Int).toNat) from SX.slice_to (a := x) (by omega), ofS_to]
  rfl
theorem e_cutFr {x : List Nat} {i : Nat} (hz : szOk x.length = true) (st : Sto) : fSl (.str x) (some (i : Int)) none st = .ok (.str (x.drop i)) st := by
  unfold fSl
  dsimp only
  rw [if_pos hz, show Txt.slice (toS x) (some (i : Int)) none = toS (x.drop (i : Int).toNat) from SX.slice_from (a := x) (by omega), ofS_to]
  rfl
theorem e_cutBut {x : List Nat} (h : x ≠ []) (hz : szOk x.length = true) (st : Sto) : fSl (.str x) none (some (-1)) st = .ok (.str (x.take (x.length - 1))) st := by
  unfold fSl
  dsimp only
  rw [if_pos hz, show Txt.slice (toS x) none (some (-1)) = toS (x.take (x.length - 1)) from SX.slice_butlast (a := x) h, ofS_to]
theorem idx_m1 {l : Option Int} {n : Nat} (h : 0 < n) : Builtin.Str.strSliceIndices l (some (-1)) 1 n = Builtin.Str.strSliceIndices l (some ((n - 1 : Nat) : Int)) 1 n := by
  have h1 : (-1 : Int) < 0 := by decide
  have h2 : (1 : Int) > 0 := by decide
  have h3 : ¬ (((n - 1 : Nat) : Int) < 0) := by omega
  have h4 : -1 + (n : Int) = ((n - 1 : Nat) : Int) := by omega
  simp only [Builtin.Str.strSliceIndices, h1, h2, h3, if_true, if_false, h4]
/-- x[1:-1] -/
theorem e_inner {x : List Nat} (h : 2 ≤ x.length) (hz : szOk x.length = true) (st : Sto) : fSl (.str x) (some 1) (some (-1)) st = .ok (.str ((x.drop 1).take (x.length - 2))) st := by
  have e := e_cut (x := x) (i := 1) (j := x.length - 1) (by omega) (by omega) hz st
  rw [show x.length - 1 - 1 = x.length - 2 by omega] at e
  rw [← e]
  unfold fSl
  dsimp only
  rw [if_pos hz, if_pos hz]
  have es : Txt.slice (toS x) (some 1) (some (-1)) = Txt.slice (toS x) (some ((1 : Nat) : Int)) (some ((x.length - 1 : Nat) : Int)) := by
    unfold Txt.slice
    rw [str_len, idx_m1 (by omega)]
    rfl
  rw [es]
end Mi
end
section
set_option maxRecDepth 100000
set_option maxHeartbeats 2000000
/-! MiFind: the first place of a sign; forgetting, by bounds -/
namespace Mi
open PySem PySem.Spec PyProof.Rows L2
/-- the first place of a sign in what is left of a text from place i on -/
def firstC (c : Nat) : List Nat → Nat → Option Nat
  | [], _ => none
  | a :: r, i => if a = c then some i else firstC c r (i + 1)
theorem occ_full (s sub : Str) (hi limit : Nat) : ∀ (l : List Nat) (st : Array Nat × Nat), limit ≤ st.fst.size → (forIn (m := Id) l st (StrLaws.occBody s sub hi limit)).run.fst = st.fst
  | [], st, h => rfl
  | a :: l, st, h => by
    rw [List.forIn_cons]
    unfold StrLaws.occBody
    rw [if_neg (fun c => by have := c.1.1.1; omega)]
    exact occ_full s sub hi limit l _ h
theorem sub_one {x : List Nat} {c j a : Nat} (h : x[j]? = some a) : Builtin.Str.subAt (toS x) (toS [c]) j = decide (a = c) := by
  have hj : j < x.length := (List.getElem?_eq_some_iff.mp h).1
  have e : (toS x).cps.extract j (j + (toS [c]).length) = #[a] := by
    show x.toArray.extract j (j + 1) = #[a]
    rw [List.extract_toArray]
    congr 1
    rw [List.extract_eq_take_drop, List.drop_eq_getElem_cons hj]
    have : j + 1 - j = 1 := by omega
    rw [this, List.take_succ_cons, List.take_zero, (List.getElem?_eq_some_iff.mp h).2]
  unfold Builtin.Str.subAt
  rw [e]
  show (#[a] == #[c]) = _
  by_cases k : a = c
  · rw [k]
    simp
  · rw [decide_eq_false k]
    simp [k]
theorem occ_from {x : List Nat} {c : Nat} : ∀ (r : List Nat) (j free : Nat), x.drop j = r → free ≤ j → j ≤ x.length → (forIn (m := Id) (List.range' j (x.length + 1 - j)) ((#[] : Array Nat), free) (StrLaws.occBody (toS x) (toS [c]) x.length 1)).run.fst.toList = match firstC c r j with
      | some k => [k]
      | none => []
  | [], j, free, h, hf, hj => by
    have hl : j = x.length := drop_nil h hj
    have e : x.length + 1 - j = 1 := by omega
    rw [e]
    show (forIn (m := Id) [j] ((#[] : Array Nat), free) (StrLaws.occBody (toS x) (toS [c]) x.length 1)).run.fst.toList = []
    rw [List.forIn_cons]
    unfold StrLaws.occBody
    rw [if_neg (fun z => by
      have := z.1.2
      have h1 : (toS [c]).length = 1 := rfl
      rw [h1] at this
      omega)]
    rfl
  | a :: r, j, free, h, hf, hj => by
    obtain ⟨e1, e2⟩ := drop_get h
    have hl : j < x.length := (List.getElem?_eq_some_iff.mp e1).1
    have e : x.length + 1 - j = (x.length + 1 - (j + 1)) + 1 := by omega
    rw [e, List.range'_succ, List.forIn_cons]
    unfold firstC
    have hs := sub_one (c := c) e1
    by_cases k : a = c
    · rw [if_pos k]
      rw [decide_eq_true k] at hs
      rw [show StrLaws.occBody (toS x) (toS [c]) x.length 1 j ((#[] : Array Nat), free) = pure (ForInStep.yield ((#[] : Array Nat).push j, j + (toS [c]).length)) by
        unfold StrLaws.occBody
        rw [if_pos ⟨⟨⟨by simp, hf⟩, by show j + 1 ≤ x.length; omega⟩, hs⟩]]
      show (forIn (m := Id) (List.range' (j + 1) (x.length + 1 - (j + 1))) ((#[] : Array Nat).push j, j + (toS [c]).length) (StrLaws.occBody (toS x) (toS [c]) x.length 1)).run.fst.toList = _
      rw [occ_full _ _ _ _ _ _ (by simp)]
      rfl
    · rw [if_neg k]
      rw [decide_eq_false k] at hs
      rw [show StrLaws.occBody (toS x) (toS [c]) x.length 1 j ((#[] : Array Nat), free) = pure (ForInStep.yield ((#[] : Array Nat), free)) by
        unfold StrLaws.occBody
        rw [if_neg (fun z => by rw [hs] at z; cases z.2)]]
      exact occ_from r (j + 1) free e2 (by omega) (by omega)
theorem occ_one {x : List Nat} {c i : Nat} (h : i ≤ x.length) : Builtin.Str.occurrences (toS x) (toS [c]) i x.length 1 = match firstC c (x.drop i) i with
      | some k => [k]
      | none => [] := by
  rw [StrLaws.occ_eq]
  exact occ_from _ i i rfl (Nat.le_refl _) h
/-- the first place of a sign from place i on, or -1 -/
def nextC (x : List Nat) (c i : Nat) : Int := match firstC c (x.drop i) i with
  | some k => k
  | none => -1
theorem e_find (x : List Nat) (c : Nat) (st : Sto) : mFind (.str x) [.str [c]] st = .ok (.int (nextC x c 0)) st := by
  unfold mFind
  dsimp only
  have e : Txt.find (toS x) (toS [c]) = nextC x c 0 := by
    unfold Txt.find nextC
    rw [str_len, occ_one (Nat.zero_le _)]
    cases firstC c (x.drop 0) 0 <;> rfl
  rw [e]
theorem e_find3 {x : List Nat} {i : Nat} (c : Nat) (h : i ≤ x.length) (st : Sto) : mFind3 (.str x) [.str [c], .int (i : Int)] st = .ok (.int (nextC x c i)) st := by
  unfold mFind3
  dsimp only
  have e : Txt.find3 (toS x) (toS [c]) (i : Int) = nextC x c i := by
    unfold Txt.find3 nextC
    have hf : fromIndex (toS x).length (i : Int) = i := by
      unfold fromIndex
      rw [if_neg (by omega)]
      omega
    rw [hf, str_len, occ_one h]
    cases firstC c (x.drop i) i <;> rfl
  rw [e]
theorem firstC_some {c k : Nat} {x : List Nat} : ∀ (r : List Nat) (i : Nat), x.drop i = r → firstC c r i = some k → i ≤ k ∧ x[k]? = some c ∧ ∀ j, i ≤ j → j < k → x[j]? ≠ some c
  | [], _, _, h => by cases h
  | a :: r, i, hd, h => by
    obtain ⟨e1, e2⟩ := drop_get hd
    unfold firstC at h
    by_cases ha : a = c
    · rw [if_pos ha] at h
      cases h
      exact ⟨Nat.le_refl _, by rw [e1, ha], fun j h1 h2 => by omega⟩
    · rw [if_neg ha] at h
      obtain ⟨h1, h2, h3⟩ := firstC_some r (i + 1) e2 h
      refine ⟨by omega, h2, fun j k1 k2 => ?_⟩
      by_cases hj : j = i
      · rw [hj, e1]
        intro z
        cases z
        exact ha rfl
      · exact h3 j (by omega) k2
theorem firstC_none {c : Nat} {x : List Nat} : ∀ (r : List Nat) (i : Nat), x.drop i = r → firstC c r i = none → ∀ j, i ≤ j → x[j]? ≠ some c
  | [], i, hd, _, j, hj => by
    rw [List.getElem?_eq_none (by have := List.drop_eq_nil_iff.mp hd; omega)]
    intro z
    cases z
  | a :: r, i, hd, h, j, hj => by
    obtain ⟨e1, e2⟩ := drop_get hd
    unfold firstC at h
    by_cases ha : a = c
    · rw [if_pos ha] at h
      cases h
    · rw [if_neg ha] at h
      by_cases hij : j = i
      · rw [hij, e1]
        intro z
        cases z
        exact ha rfl
      · exact firstC_none r (i + 1) e2 h j (by omega)
/-! ### bounds may be raised -/
mutual
theorem clV_mono {n m : Nat} (h : n ≤ m) : ∀ p : PV, clV n p = true → clV m p = true
  | .tup xs, c => clVs_mono h xs c
  | .ref k, c => Nat.ble_eq_true_of_le (Nat.le_trans (Nat.le_of_ble_eq_true c) h)
  | .non, _ => rfl
  | .bl _, _ => rfl
  | .int _, _ => rfl
  | .str _, _ => rfl
  | .fn _, _ => rfl
  | .thk, _ => rfl
theorem clVs_mono {n m : Nat} (h : n ≤ m) : ∀ ps : List PV, clVs n ps = true → clVs m ps = true
  | [], _ => rfl
  | p :: ps, c => Bool.and_eq_true_iff.mpr ⟨clV_mono h p (Bool.and_eq_true_iff.mp c).1, clVs_mono h ps (Bool.and_eq_true_iff.mp c).2⟩
end
theorem clKs_mono {n m : Nat} (h : n ≤ m) : ∀ ps : List (Key × PV), clKs n ps = true → clKs m ps = true
  | [], _ => rfl
  | (k, p) :: ps, c => Bool.and_eq_true_iff.mpr ⟨clV_mono h p (Bool.and_eq_true_iff.mp c).1, clKs_mono h ps (Bool.and_eq_true_iff.mp c).2⟩
theorem clO_mono {n m : Nat} (h : n ≤ m) (o : SO) (c : clO n o = true) : clO m o = true := by
  cases o with
  | lst xs => exact clVs_mono h xs c
  | dct xs => exact clKs_mono h xs c
  | fz xs => rfl
  | dlk xs => exact clKs_mono h xs c
theorem clS_mono {n m : Nat} (h : n ≤ m) {st : Sto} (c : clS n st = true) : clS m st = true := by
  unfold clS at c ⊢
  exact List.all_eq_true.mpr fun o ho => clO_mono h o (List.all_eq_true.mp c o ho)
theorem clS_add {st : Sto} {xs : List PV} (c : clS st.length st = true) (h : clVs (st.length + 1) xs = true) : clS (st ++ [SO.lst xs]).length (st ++ [SO.lst xs]) = true := by
  have hl : (st ++ [SO.lst xs]).length = st.length + 1 := by simp
  rw [hl]
  have h1 := clS_mono (Nat.le_succ st.length) c
  unfold clS at h1 ⊢
  rw [List.all_append, h1, Bool.true_and, List.all_cons, List.all_nil, Bool.and_true]
  exact h
theorem clVs_of {n : Nat} {ps : List PV} (h : ∀ p ∈ ps, clV n p = true) : clVs n ps = true := by
  induction ps with
  | nil => rfl
  | cons p ps ih => exact Bool.and_eq_true_iff.mpr ⟨h p List.mem_cons_self, ih fun q hq => h q (List.mem_cons_of_mem _ hq)⟩
theorem clVs_ints (n : Nat) (vs : List Int) : clVs n (vs.map PV.int) = true := clVs_of fun p hp => by
  obtain ⟨v, _, rfl⟩ := List.mem_map.mp hp
  rfl
/-- an answer without garbage of its own -/
theorem LeR.plain {st g : Sto} {v : PV} {r : Res PV} (e : r = .ok v (st ++ g)) (hv : clV st.length v = true) (hs : clS st.length st = true) : LeR st.length (.ok v st) r := ⟨g, e, hv, hs, Nat.le_refl _⟩
theorem LeR.list {st g : Sto} {xs : List PV} {r : Res PV} (e : r = .ok (.ref st.length) (st ++ .lst xs :: g)) (hv : clVs (st.length + 1) xs = true) (hs : clS st.length st = true) : LeR st.length (.ok (.ref st.length) (st ++ [.lst xs])) r := by
  refine ⟨g, ?_, ?_, clS_add hs hv, ?_⟩
  · rw [e]
    simp
  · have hl : (st ++ [SO.lst xs]).length = st.length + 1 := by simp
    rw [hl]
    exact Nat.ble_eq_true_of_le (Nat.lt_succ_self _)
  · simp
end Mi
end
section
set_option maxRecDepth 100000
set_option maxHeartbeats 2000000
/-! MiLcT: comprehensions with any target; loops over pairs; joined texts -/
namespace Mi
open PySem PySem.Spec PyProof.Rows L2
theorem lcL_mapT {t : Tg} {es : PV → Mi.Env} {ts : DB} {el : DE} {p : PV → Bool} {h : PV → PV} {own : List Nat} {th : Th} {env : Mi.Env} {s : Sto} {k : Nat} {ys : List PV} (hk : lstAt s k = some ys) : ∀ (xs acc : List PV) (j : Nat) (m : Nat), ys.drop j = xs → xs.length < m → acc.length + xs.length ≤ 16777216 →
    (∀ x ∈ xs, t.set x env = some (es x)) →
    (∀ x ∈ xs, ∀ acc', ts th (es x) (s ++ [.lst acc']) = .ok (p x) (s ++ [.lst acc'])) → (∀ x ∈ xs, p x = true → ∀ acc', el th (es x) (s ++ [.lst acc']) = .ok (h x) (s ++ [.lst acc'])) →
    lcL t ts el own th s.length (lstG k) m j env (s ++ [.lst acc]) = .ok () (s ++ [.lst (acc ++ (xs.filter p).map h)]) := by
  have hkl : k < s.length := by
    unfold lstAt at hk
    by_cases hl : k < s.length
    · exact hl
    · rw [List.getElem?_eq_none (Nat.le_of_not_lt hl)] at hk
      cases hk
  have hg : ∀ j acc, lstG k j (s ++ [SO.lst acc]) = some ys[j]? := fun j acc => by
    unfold lstG lstAt
    rw [List.getElem?_append_left hkl]
    unfold lstAt at hk
    rw [hk]
  intro xs
  induction xs with
  | nil =>
    intro acc j m hd hm hz hs ht he
    cases m with
    | zero => cases hm
    | succ m =>
      unfold lcL
      rw [hg]
      have : ys[j]? = none := List.getElem?_eq_none (List.drop_eq_nil_iff.mp hd)
      rw [this]
      simp
  | cons x xs ih =>
    intro acc j m hd hm hz hs ht he
    cases m with
    | zero => cases hm
    | succ m =>
      rw [List.length_cons] at hz hm
      obtain ⟨e1, e2⟩ := drop_get hd
      have h1 := ht x List.mem_cons_self acc
      unfold lcL
      rw [hg, e1]
      dsimp only
      rw [hs x List.mem_cons_self]
      dsimp only
      rw [h1]
      dsimp only [Res.bind]
      cases hp : p x with
      | true =>
        rw [he x List.mem_cons_self hp acc]
        dsimp only
        rw [get_end]
        dsimp only
        have hb : Nat.blt acc.length 16777216 = true := Nat.ble_eq_true_of_le (by omega)
        rw [if_pos hb, set_end, ih (acc ++ [h x]) (j + 1) m e2 (by omega) (by rw [List.length_append, List.length_singleton]; omega) (fun y hy => hs y (List.mem_cons_of_mem _ hy)) (fun y hy => ht y (List.mem_cons_of_mem _ hy)) (fun y hy => he y (List.mem_cons_of_mem _ hy)), List.filter_cons_of_pos hp, List.map_cons, List.append_assoc]
        rfl
      | false =>
        dsimp only
        rw [ih acc (j + 1) m e2 (by omega) (by omega) (fun y hy => hs y (List.mem_cons_of_mem _ hy)) (fun y hy => ht y (List.mem_cons_of_mem _ hy)) (fun y hy => he y (List.mem_cons_of_mem _ hy)), List.filter_cons_of_neg (by rw [hp]; decide)]
/-- a comprehension over a list of the store, any target -/
theorem dLc_listT {it : DI} {t : Tg} {es : PV → Mi.Env} {ts : DB} {el : DE} {p : PV → Bool} {h : PV → PV} {own : List Nat} {th : Th} {env : Mi.Env} {st s : Sto} {xs : List PV} {k m : Nat} (hit : it th env st = .ok (.dyn m (lstG k)) s) (hk : lstAt s k = some xs) (hm : xs.length < m) (hz : xs.length ≤ 16777216)
    (hs : ∀ x ∈ xs, t.set x (wipeE env own) = some (es x)) (ht : ∀ x ∈ xs, ∀ acc', ts th (es x) (s ++ [.lst acc']) = .ok (p x) (s ++ [.lst acc']))
    (he : ∀ x ∈ xs, p x = true → ∀ acc', el th (es x) (s ++ [.lst acc']) = .ok (h x) (s ++ [.lst acc'])) : dLc it t ts el own th env st = .ok (.ref s.length) (s ++ [.lst ((xs.filter p).map h)]) := by
  unfold dLc
  rw [hit]
  dsimp only [Res.bind]
  rw [lcL_mapT hk xs [] 0 m rfl hm (by simpa using hz) hs ht he]
  rfl
/-- the same over values -/
theorem lcV_mapT {t : Tg} {es : PV → Mi.Env} {ts : DB} {el : DE} {p : PV → Bool} {h : PV → PV} {own : List Nat} {th : Th} {env : Mi.Env} {s : Sto} : ∀ (xs acc : List PV), acc.length + xs.length ≤ 16777216 → (∀ x ∈ xs, t.set x env = some (es x)) → (∀ x ∈ xs, ∀ acc', ts th (es x) (s ++ [.lst acc']) = .ok (p x) (s ++ [.lst acc'])) →
    (∀ x ∈ xs, p x = true → ∀ acc', el th (es x) (s ++ [.lst acc']) = .ok (h x) (s ++ [.lst acc'])) →
    lcV t ts el own th s.length xs env (s ++ [.lst acc]) = .ok () (s ++ [.lst (acc ++ (xs.filter p).map h)])
  | [], acc, _, _, _, _ => by
    simp [lcV]
  | x :: xs, acc, hz, hs, ht, he => by
    have h1 := ht x List.mem_cons_self acc
    rw [List.length_cons] at hz
    unfold lcV
    rw [hs x List.mem_cons_self]
    dsimp only
    rw [h1]
    dsimp only [Res.bind]
    cases hp : p x with
    | true =>
      rw [he x List.mem_cons_self hp acc]
      dsimp only
      rw [get_end]
      dsimp only
      have hb : Nat.blt acc.length 16777216 = true := Nat.ble_eq_true_of_le (by omega)
      rw [if_pos hb, set_end, lcV_mapT xs (acc ++ [h x]) (by rw [List.length_append, List.length_singleton]; omega) (fun y hy => hs y (List.mem_cons_of_mem _ hy)) (fun y hy => ht y (List.mem_cons_of_mem _ hy)) (fun y hy => he y (List.mem_cons_of_mem _ hy)), List.filter_cons_of_pos hp, List.map_cons, List.append_assoc]
      rfl
    | false =>
      dsimp only
      rw [lcV_mapT xs acc (by omega) (fun y hy => hs y (List.mem_cons_of_mem _ hy)) (fun y hy => ht y (List.mem_cons_of_mem _ hy)) (fun y hy => he y (List.mem_cons_of_mem _ hy)), List.filter_cons_of_neg (by rw [hp]; decide)]
theorem dLc_valsT {it : DI} {t : Tg} {es : PV → Mi.Env} {ts : DB} {el : DE} {p : PV → Bool} {h : PV → PV} {own : List Nat} {th : Th} {env : Mi.Env} {st s : Sto} {xs : List PV} (hit : it th env st = .ok (.vals xs) s) (hz : xs.length ≤ 16777216) (hs : ∀ x ∈ xs, t.set x (wipeE env own) = some (es x)) (ht : ∀ x ∈ xs, ∀ acc', ts th (es x) (s ++ [.lst acc']) = .ok (p x) (s ++ [.lst acc']))
    (he : ∀ x ∈ xs, p x = true → ∀ acc', el th (es x) (s ++ [.lst acc']) = .ok (h x) (s ++ [.lst acc'])) : dLc it t ts el own th env st = .ok (.ref s.length) (s ++ [.lst ((xs.filter p).map h)]) := by
  unfold dLc
  rw [hit]
  dsimp only [Res.bind]
  rw [lcV_mapT xs [] (by simpa using hz) hs ht he]
  rfl
theorem glue_flat : ∀ ss : List (List Nat), glue [] ss = ss.flatten
  | [] => rfl
  | [x] => by simp [glue]
  | x :: y :: r => by
    unfold glue
    rw [glue_flat (y :: r), List.append_nil]
    rfl
theorem len_flat : ∀ ss : List (List Nat), (ss.map List.length).sum = ss.flatten.length
  | [] => rfl
  | x :: r => by rw [List.map_cons, List.sum_cons, len_flat r, List.flatten_cons, List.length_append]
/-- "".join of texts -/
theorem e_join0 {k : Nat} {s : Sto} {ss : List (List Nat)} (h1 : lstAt s k = some (ss.map PV.str)) (h3 : szOk ss.flatten.length = true) : mJoin (.str []) [.ref k] s = .ok (.str ss.flatten) s := by
  rw [e_join h1 (strs_self ss) (by rw [len_flat]; exact h3), glue_flat]
end Mi
end
section
set_option maxRecDepth 100000
set_option maxHeartbeats 2000000
/-! MiKp: what stays in the store -/
namespace Mi
open PySem PySem.Spec PyProof.Rows L2
/-- but for ex, what stood there stands there still -/
def Kp (ex : List Nat) (st st' : Sto) : Prop := st.length ≤ st'.length ∧ ∀ i, i < st.length → i ∉ ex → st'[i]? = st[i]?
theorem Kp.refl (ex : List Nat) (st : Sto) : Kp ex st st := ⟨Nat.le_refl _, fun _ _ _ => rfl⟩
theorem Kp.trans {ex : List Nat} {a b c : Sto} (h : Kp ex a b) (k : Kp ex b c) : Kp ex a c := ⟨Nat.le_trans h.1 k.1, fun i hi he => (k.2 i (Nat.lt_of_lt_of_le hi h.1) he).trans (h.2 i hi he)⟩
theorem Kp.mono {ex ex' : List Nat} {a b : Sto} (h : Kp ex a b) (hs : ∀ i ∈ ex, i ∈ ex') : Kp ex' a b := ⟨h.1, fun i hi he => h.2 i hi fun z => he (hs i z)⟩
theorem Kp.app (ex : List Nat) (st g : Sto) : Kp ex st (st ++ g) := ⟨by rw [List.length_append]; omega, fun i hi _ => List.getElem?_append_left hi⟩
theorem Kp.same {w : Nat} {a b : Sto} (h : Same w a b) : Kp [w] a b := ⟨by rw [h.1]; exact Nat.le_refl _, fun i _ he => h.2 i fun z => he (by rw [z]; exact List.mem_singleton.mpr rfl)⟩
/-- what came later is written -/
theorem Kp.set {ex : List Nat} {a b : Sto} {D : Nat} {o : SO} (h : Kp ex a b) (hD : a.length ≤ D) : Kp ex a (b.set D o) := ⟨by rw [List.length_set]; exact h.1, fun i hi he => by rw [List.getElem?_set_ne (by omega)]; exact h.2 i hi he⟩
theorem Kp.get {ex : List Nat} {a b : Sto} {i : Nat} {o : SO} (h : Kp ex a b) (hi : a[i]? = some o) (he : i ∉ ex) : b[i]? = some o := by rw [h.2 i (get_lt hi) he, hi]
theorem Kp.one {w : Nat} {a b : Sto} {i : Nat} {o : SO} (h : Kp [w] a b) (hi : a[i]? = some o) (he : i ≠ w) : b[i]? = some o := h.get hi fun z => he (List.mem_singleton.mp z)
end Mi
end
section
set_option maxRecDepth 100000
set_option maxHeartbeats 2000000
/-! MiGood: values that are equal to themselves by their data -/
namespace Mi
open PySem PySem.Spec PyProof.Rows L2
def Good (n : Nat) (st : Sto) (p : PV) : Prop := ∃ d, dat n st p = some d ∧ PyData.eqv d d = true
theorem good_int (n : Nat) (st : Sto) (i : Int) : Good n st (.int i) := ⟨.int i, by cases n <;> rfl, by simp [PyData.eqv]⟩
theorem good_bl (n : Nat) (st : Sto) (i : Bool) : Good n st (.bl i) := ⟨.bool i, by cases n <;> rfl, by simp [PyData.eqv]⟩
theorem good_non (n : Nat) (st : Sto) : Good n st .non := ⟨.none, by cases n <;> rfl, by simp [PyData.eqv]⟩
theorem good_str (n : Nat) (st : Sto) {s : List Nat} (h : okCh s = true) : Good n st (.str s) := ⟨.str ⟨s.toArray⟩, by cases n <;> (unfold dat; rw [if_pos h]), by simp [PyData.eqv]⟩
theorem good_all {n : Nat} {st : Sto} : ∀ {xs : List PV}, (∀ x ∈ xs, Good n st x) → ∃ ds, mapO (dat n st) xs = some ds ∧ PyData.eqvAll ds ds = true ∧ ds.isEmpty = xs.isEmpty
  | [], _ => ⟨[], rfl, rfl, rfl⟩
  | x :: r, h => by
    obtain ⟨d, e, q⟩ := h x List.mem_cons_self
    obtain ⟨ds, e2, q2, _⟩ := good_all fun y hy => h y (List.mem_cons_of_mem _ hy)
    refine ⟨d :: ds, ?_, ?_, rfl⟩
    · unfold mapO
      rw [e]
      dsimp only
      rw [e2]
    · unfold PyData.eqvAll
      rw [q, q2]
      rfl
theorem good_tup {n : Nat} {st : Sto} {xs : List PV} (h : ∀ x ∈ xs, Good n st x) : Good (n + 1) st (.tup xs) := by
  obtain ⟨ds, e, q, _⟩ := good_all h
  refine ⟨.tuple ds, ?_, ?_⟩
  · unfold dat
    rw [e]
  · unfold PyData.eqv
    exact q
theorem ne_tup_same {st : Sto} {xs : List PV} (h : ∀ x ∈ xs, Good 59 st x) : pNe (.tup xs) (.tup xs) st = .ok (.bl false) st := by
  obtain ⟨d, e, q⟩ := good_tup h
  have r : pEqB (.tup xs) (.tup xs) st = some true := by
    show (match dat 60 st (.tup xs) with
      | some d => match dat 60 st (.tup xs) with
        | some e => some (PyData.eqv d e)
        | none => none
      | none => none) = _
    rw [e]
    dsimp only
    rw [q]
  unfold pNe
  rw [r]
  rfl
theorem dat_ref {st : Sto} {k n : Nat} {xs : List PV} {ds : List PyData} (h : lstAt st k = some xs) (e : mapO (dat n st) xs = some ds) : dat (n + 1) st (.ref k) = some (.list ds) := by
  unfold dat
  rw [h]
  dsimp only
  rw [e]
theorem eqB_lst {st : Sto} {a b : Nat} {xs ys : List PV} {ds es : List PyData} (ha : lstAt st a = some xs) (hb : lstAt st b = some ys) (e1 : mapO (dat 59 st) xs = some ds) (e2 : mapO (dat 59 st) ys = some es) : pEqB (.ref a) (.ref b) st = some (PyData.eqv (.list ds) (.list es)) := by
  show (match dat 60 st (.ref a) with
    | some d => match dat 60 st (.ref b) with
      | some e => some (PyData.eqv d e)
      | none => none
    | none => none) = _
  rw [dat_ref ha e1, dat_ref hb e2]
theorem eqB_same {st : Sto} {a b : Nat} {xs : List PV} (ha : lstAt st a = some xs) (hb : lstAt st b = some xs) (h : ∀ x ∈ xs, Good 59 st x) : pEqB (.ref a) (.ref b) st = some true := by
  obtain ⟨ds, e, q, _⟩ := good_all h
  rw [eqB_lst ha hb e e]
  unfold PyData.eqv
  rw [q]
theorem eqB_nil {st : Sto} {a b : Nat} {xs : List PV} (ha : lstAt st a = some xs) (hb : lstAt st b = some []) (h : ∀ x ∈ xs, Good 59 st x) : pEqB (.ref a) (.ref b) st = some xs.isEmpty := by
  obtain ⟨ds, e, q, i⟩ := good_all h
  rw [eqB_lst ha hb e rfl, ← i]
  cases ds <;> rfl
theorem ne_of_B {x y : PV} {st : Sto} {b : Bool} (h : pEqB x y st = some b) : pNe x y st = .ok (.bl (!b)) st := by
  unfold pNe
  rw [h]
theorem eq_of_B {x y : PV} {st : Sto} {b : Bool} (h : pEqB x y st = some b) : pEq x y st = .ok (.bl b) st := by
  unfold pEq
  rw [h]
theorem e_list {xs : List PV} (st : Sto) : fList [.tup xs] st = .ok (.ref st.length) (st ++ [.lst xs]) := rfl
end Mi
end
section
set_option maxRecDepth 100000
set_option maxHeartbeats 2000000
/-! MiLcG: comprehensions over whatever is walked; zip of a list and its tail -/
namespace Mi
open PySem PySem.Spec PyProof.Rows L2
theorem lcL_mapG {t : Tg} {es : PV → Mi.Env} {ts : DB} {el : DE} {p : PV → Bool} {h : PV → PV} {own : List Nat} {th : Th} {env : Mi.Env} {s : Sto} {g : Nat → Sto → Option (Option PV)} {ys : List PV} (hg : ∀ j acc, g j (s ++ [SO.lst acc]) = some ys[j]?) : ∀ (xs acc : List PV) (j : Nat) (m : Nat), ys.drop j = xs → xs.length < m → acc.length + xs.length ≤ 16777216 →
    (∀ x ∈ xs, t.set x env = some (es x)) →
    (∀ x ∈ xs, ∀ acc', ts th (es x) (s ++ [.lst acc']) = .ok (p x) (s ++ [.lst acc'])) → (∀ x ∈ xs, p x = true → ∀ acc', el th (es x) (s ++ [.lst acc']) = .ok (h x) (s ++ [.lst acc'])) →
    lcL t ts el own th s.length g m j env (s ++ [.lst acc]) = .ok () (s ++ [.lst (acc ++ (xs.filter p).map h)]) := by
  intro xs
  induction xs with
  | nil =>
    intro acc j m hd hm hz hs ht he
    cases m with
    | zero => cases hm
    | succ m =>
      unfold lcL
      rw [hg]
      have : ys[j]? = none := List.getElem?_eq_none (List.drop_eq_nil_iff.mp hd)
      rw [this]
      simp
  | cons x xs ih =>
    intro acc j m hd hm hz hs ht he
    cases m with
    | zero => cases hm
    | succ m =>
      rw [List.length_cons] at hz hm
      obtain ⟨e1, e2⟩ := drop_get hd
      have h1 := ht x List.mem_cons_self acc
      unfold lcL
      rw [hg, e1]
      dsimp only
      rw [hs x List.mem_cons_self]
      dsimp only
      rw [h1]
      dsimp only [Res.bind]
      cases hp : p x with
      | true =>
        rw [he x List.mem_cons_self hp acc]
        dsimp only
        rw [get_end]
        dsimp only
        have hb : Nat.blt acc.length 16777216 = true := Nat.ble_eq_true_of_le (by omega)
        rw [if_pos hb, set_end, ih (acc ++ [h x]) (j + 1) m e2 (by omega) (by rw [List.length_append, List.length_singleton]; omega) (fun y hy => hs y (List.mem_cons_of_mem _ hy)) (fun y hy => ht y (List.mem_cons_of_mem _ hy)) (fun y hy => he y (List.mem_cons_of_mem _ hy)), List.filter_cons_of_pos hp, List.map_cons, List.append_assoc]
        rfl
      | false =>
        dsimp only
        rw [ih acc (j + 1) m e2 (by omega) (by omega) (fun y hy => hs y (List.mem_cons_of_mem _ hy)) (fun y hy => ht y (List.mem_cons_of_mem _ hy)) (fun y hy => he y (List.mem_cons_of_mem _ hy)), List.filter_cons_of_neg (by rw [hp]; decide)]
theorem dLc_dyn {it : DI} {t : Tg} {es : PV → Mi.Env} {ts : DB} {el : DE} {p : PV → Bool} {h : PV → PV} {own : List Nat} {th : Th} {env : Mi.Env} {st s : Sto} {g : Nat → Sto → Option (Option PV)} {xs : List PV} {m : Nat} (hit : it th env st = .ok (.dyn m g) s) (hg : ∀ j acc, g j (s ++ [SO.lst acc]) = some xs[j]?) (hm : xs.length < m) (hz : xs.length ≤ 16777216)
    (hs : ∀ x ∈ xs, t.set x (wipeE env own) = some (es x)) (ht : ∀ x ∈ xs, ∀ acc', ts th (es x) (s ++ [.lst acc']) = .ok (p x) (s ++ [.lst acc']))
    (he : ∀ x ∈ xs, p x = true → ∀ acc', el th (es x) (s ++ [.lst acc']) = .ok (h x) (s ++ [.lst acc'])) : dLc it t ts el own th env st = .ok (.ref s.length) (s ++ [.lst ((xs.filter p).map h)]) := by
  unfold dLc
  rw [hit]
  dsimp only [Res.bind]
  rw [lcL_mapG hg xs [] 0 m rfl hm (by simpa using hz) hs ht he]
  rfl
theorem zG_of {j k : Nat} {s g : Sto} {xs ys : List PV} (h1 : lstAt (s ++ g) j = some xs) (h2 : lstAt (s ++ g) k = some ys) (i : Nat) : zG j k i (s ++ g) = some (zV xs ys)[i]? := by
  unfold zG
  rw [h1, zV_get]
  dsimp only
  rw [h2]
  dsimp only
  cases xs[i]? with
  | none => rfl
  | some x =>
    dsimp only
    cases ys[i]? <;> rfl
theorem cut_one {α : Type} (xs : List α) : cutP xs (some 1) none = xs.drop 1 := by
  unfold cutP
  rw [show HT.sIx xs.length 0 (some 1) = min 1 xs.length from HT.sIx_nat xs.length 0 1, HT.sIx_none]
  cases xs with
  | nil => rfl
  | cons a r =>
    rw [List.length_cons, show min 1 (r.length + 1) = 1 by omega]
    show (r.take (r.length + 1 - 1)) = r
    exact List.take_of_length_le (by omega)
theorem lstAt_app {s g : Sto} {k : Nat} {xs : List PV} (h : lstAt s k = some xs) : lstAt (s ++ g) k = some xs := by
  have hl : k < s.length := by
    unfold lstAt at h
    by_cases hl : k < s.length
    · exact hl
    · rw [List.getElem?_eq_none (Nat.le_of_not_lt hl)] at h
      cases h
  unfold lstAt at h ⊢
  rw [List.getElem?_append_left hl]
  exact h
end Mi
end
section
set_option maxRecDepth 100000
set_option maxHeartbeats 4000000
/-! MiSrt: sorted(..) of tuples that stand in order by their first ints -/
namespace Mi
open PySem PySem.Spec PyProof.Rows L2
section
variable {prog : Program} {w : World} {A : Around} {E : Value → Shared → Prop} {s : Shared}
/-- sorted(l) of 2 to 63 items that stand in order -/
theorem sorted_stay {l : Addr} {vs : List Value} {κ : SortKind} {Q : Value → Shared → Prop} (hl : s.heap.IsList l vs.toArray) (h2 : 2 ≤ vs.length) (h64 : vs.length < 64)
    (hk : ∀ h' : Heap, (∀ b o, s.heap.get? b = some o → h'.get? b = some o) → wpAny (model prog w) A.in1.in1 (keyKind' vs.toArray) (fun κ' s' => κ' = κ ∧ s' = { s with heap := h' }) (fun _ _ => False) { s with heap := h' })
    (hc : ∀ h' : Heap, (∀ b o, s.heap.get? b = some o → h'.get? b = some o) → ∀ i, 1 ≤ i → i < vs.length → ∀ C : Bool → Shared → Prop, C false { s with heap := h' } → PySem.W.kas_ask prog w A.in1.in1 κ vs i (i - 1) C { s with heap := h' })
    (h : Q (.ref (s.heap.objs.size + 1)) { s with heap := sortedAll s.heap vs vs.toArray }) :
    wpAny (model prog w) A (call (.builtin "sorted") [.ref l]) Q E s := by
  have hz : vs.length ≤ sizeLine := by rw [sizeLine_eq]; omega
  refine Calls.call_function_entry kind_sorted plain_sorted entry_sorted (args_sorted1 _) ?_
  unfold Builtin.«sorted»
  refine wpAny_bind (m := checkCount "sorted" 1 1 _) (wpAny_pure ?_)
  refine wpAny_bind (collect_list hl ?_ hz)
  refine wpAny_bind (wpAny_newList ?_ hz)
  have hsz : ((s.heap.push (seqObj "list" #[] 0)).update s.heap.objs.size (Obj.mapSeq (· ++ vs.toArray))).objs.size = s.heap.objs.size + 1 := by
    rw [Heap.size_update, size_push']
  have hoL : (((s.heap.push (seqObj "list" #[] 0)).update s.heap.objs.size (Obj.mapSeq (· ++ vs.toArray))).push (seqObj "list" vs.toArray 0)).get? (s.heap.objs.size + 1) = some (seqObj "list" vs.toArray 0) := by
    rw [← hsz]; exact Heap.get?_push_size _ rfl
  have keep : ∀ b o, s.heap.get? b = some o → b ≠ s.heap.objs.size + 1 ∧ (((s.heap.push (seqObj "list" #[] 0)).update s.heap.objs.size (Obj.mapSeq (· ++ vs.toArray))).push (seqObj "list" vs.toArray 0)).get? b = some o := fun b o q => by
    have hlt : b < s.heap.objs.size := Heap.lt_size q
    refine ⟨Nat.ne_of_lt (Nat.lt_succ_of_lt hlt), Heap.get?_push_of_some _ ?_⟩
    rw [Heap.get?_update_ne _ _ _ _ (Nat.ne_of_lt hlt)]
    exact Heap.get?_push_of_some _ q
  show wpAny _ _ _ _ _ { s with heap := ((s.heap.push (seqObj "list" #[] 0)).update s.heap.objs.size (Obj.mapSeq (· ++ vs.toArray))).push (seqObj "list" vs.toArray 0) }
  rw [hsz]
  refine wpAny_bind (wpAny_holding (wpAny_call_entry slot_list_sort ⟨_, hoL, rfl⟩ entry_list_sort (list_sort_asc (κ := κ) hoL h2 h64 (fun h' k => hk h' fun b o e => k b o (keep b o e).1 (keep b o e).2) (fun h' k => hc h' fun b o e => k b o (keep b o e).1 (keep b o e).2) ⟨_, rfl, ?_⟩) (args_list_sort _)))
  exact wpAny_pure ⟨_, rfl, h⟩
end
/-- a tuple whose first item is an int -/
def HdAt (K : PySem.W.Frag) (H : Hp) (x : V) (k : Int) : Prop := ∃ t r, x = .ref t ∧ SqT K H t (.int k :: r)
/-- sorted(list of tuples) whose first ints rise -/
def rSortedH (K : PySem.W.Frag) : List V → Hp → VK → Prop := fun vs H Q => ∃ (a : Addr) (xs : List V) (ks : List Int), vs = [V.ref a] ∧ SqL K H a xs ∧ Paired (HdAt K H) xs ks ∧ xs.length < 64 ∧ ks.Pairwise (· < ·) ∧
  ∀ p, H p = none → Q (.ref p) (upd H p (.lst xs))
theorem paired_len {α β : Type} {R : α → β → Prop} : ∀ {xs : List α} {ys : List β}, Paired R xs ys → xs.length = ys.length
  | _, _, .nil => rfl
  | _, _, .cons _ t => by rw [List.length_cons, List.length_cons, paired_len t]
theorem paired_get {α β : Type} {R : α → β → Prop} : ∀ {xs : List α} {ys : List β} {i : Nat} {x : α}, Paired R xs ys → xs[i]? = some x → ∃ y, ys[i]? = some y ∧ R x y
  | _, _, _, _, .nil, h => by simp at h
  | _, _, 0, _, .cons r _, h => by
    simp at h
    subst h
    exact ⟨_, rfl, r⟩
  | _, _, i + 1, _, .cons _ t, h => by
    obtain ⟨y, e, r⟩ := paired_get (i := i) t (by simpa using h)
    exact ⟨y, by simpa using e, r⟩
/-- the object of such a tuple -/
def TupH (h : Heap) (v : Value) (k : Int) : Prop := ∃ b, v = .ref b ∧ Tup1 h b k
theorem tupsH {h : Heap} : ∀ {vs : List Value} {ks : List Int}, Paired (TupH h) vs ks → ∃ fs : List Value, PySem.W.KatTups h vs fs ∧ fs.length = vs.length ∧ ∀ v ∈ fs, ∃ (m : Int) (t : Tok), v = Value.int m t
  | _, _, .nil => ⟨[], True.intro, rfl, fun v hv => by cases hv⟩
  | _, _, .cons (a := v) (b := k) ⟨b, e, o, xs, n, t, rest, e1, ec, ed, ex⟩ q => by
    subst e
    obtain ⟨fs, h1, h2, h3⟩ := tupsH q
    refine ⟨Value.int k t :: fs, PySem.W.KatTups.cons e1 ec ed ?_ h1, by rw [List.length_cons, List.length_cons, h2], fun v hv => ?_⟩
    · rw [← Array.getElem?_toList, ex]
      all_goals rfl
    · rcases List.mem_cons.mp hv with e' | hv
      · exact ⟨_, _, e'⟩
      · exact h3 v hv
theorem tupH_keep {h h' : Heap} (kp : ∀ b o, h.get? b = some o → h'.get? b = some o) : ∀ {vs : List Value} {ks : List Int}, Paired (TupH h) vs ks → Paired (TupH h') vs ks
  | _, _, .nil => .nil
  | _, _, .cons ⟨b, e, t⟩ q => .cons ⟨b, e, t.keep fun o => kp b o⟩ (tupH_keep kp q)
section
variable {X : Cx} {J : Jx}
theorem tupH_of {pins : List (Addr × Obj)} {σ : L2.St} {H : Hp} {s : Shared} (I : Inv X pins σ H s) : ∀ {xs : List V} {ks : List Int} {us : List Value}, Paired (HdAt X.K H) xs ks → Vals xs us → Paired (TupH s.heap) us ks
  | _, _, us, .nil, r => by
    cases r
    exact .nil
  | _, _, us, .cons ⟨t, r0, e, q⟩ p, r => by
    subst e
    cases r with
    | cons h1 h2 =>
      cases h1
      refine .cons ⟨t, rfl, ?_⟩ (tupH_of I p h2)
      obtain ⟨its, r2, ⟨o, ho, hc, n, hdd⟩, _⟩ := I.tuple q
      cases r2 with
      | cons hh tt =>
        obtain ⟨tk, et⟩ := hh
        subst et
        exact ⟨o, _, n, tk, _, ho, hc, hdd, rfl⟩
theorem cr_sortedH : CallR X (.builtin "sorted") (rSortedH X.K) := by
  intro pins s σ H vs us Q I r h
  obtain ⟨a, xs, ks, rfl, hs, hx, h64, hr, q⟩ := h
  obtain ⟨its, rv, hl, hz⟩ := I.list hs
  obtain ⟨u, rfl, ru⟩ := vals1 r
  have ru : u = Value.ref a := ru
  subst ru
  have lx : its.length = xs.length := rv.length.symm
  have hp := tupH_of I hx rv
  have fin : ∀ out : List Value, out = its → ∃ (v : V) (H' : Hp), Inv X pins σ H' { s with heap := sortedAll s.heap its out.toArray } ∧ RelV v (Value.ref (s.heap.objs.size + 1)) ∧ Q v H' := fun out e => by
    subst e
    obtain ⟨ep, he'⟩ := PyProof.Rows.sortedAll_at s.heap out out.toArray
    exact ⟨.ref _, upd H (s.heap.objs.size + 1) (.lst xs), I.laid (t' := s.toks) (fun _ _ => PyProof.Rows.sortedAll_old) (Nat.le_succ _) ⟨hz, out, ep, rv, he'⟩, rfl, q _ (I.hok.fresh (Nat.le_succ _))⟩
  by_cases h2 : 2 ≤ its.length
  · refine sorted_stay (κ := tuples' true) hl.isList h2 (by omega) (fun h' k => ?_) (fun h' k i h1 h3 C hC => ?_) (fin its rfl)
    · obtain ⟨fs, t1, t2, t3⟩ := tupsH (tupH_keep k hp)
      refine PySem.W.kat_kind (s := { s with heap := h' }) (T := Value.type "int") t1 (by omega) (fun v hv => ?_) rfl ⟨by rw [tup1_kind], rfl⟩
      obtain ⟨m, t, e⟩ := t3 v hv
      subst e
      exact PySem.W.Looks.of_pure rfl
    · have hp' := tupH_keep k hp
      have hj : i - 1 < its.length := by omega
      obtain ⟨k1, g1, b1, e1, o, ys, n1, t, r1, m1, m2, m3, m4⟩ := paired_get hp' (List.getElem?_eq_getElem h3)
      obtain ⟨k2, g2, b2, e2, o', ys', n2, t', r2, m1', m2', m3', m4'⟩ := paired_get hp' (List.getElem?_eq_getElem hj)
      have hlt : k2 < k1 := by
        obtain ⟨l1, f1⟩ := List.getElem?_eq_some_iff.mp g1
        obtain ⟨l2, f2⟩ := List.getElem?_eq_some_iff.mp g2
        have := List.pairwise_iff_getElem.mp hr (i - 1) i l2 l1 (by omega)
        rw [f1, f2] at this
        exact this
      have d1 : its.getD i Value.none = Value.ref b1 := by rw [List.getD_eq_getElem?_getD, List.getElem?_eq_getElem h3, e1]; rfl
      have d2 : its.getD (i - 1) Value.none = Value.ref b2 := by rw [List.getD_eq_getElem?_getD, List.getElem?_eq_getElem hj, e2]; rfl
      have hne : (k1 == k2) = false := beq_eq_false_iff_ne.mpr (by omega)
      have hnl : decide (k1 < k2) = false := decide_eq_false (by omega)
      unfold PySem.W.kas_ask
      rw [d1, d2]
      refine PySem.W.kat_lt (s := { s with heap := h' }) m1 m3 m1' m3' ?_
      rw [m4, m4']
      show PySem.W.KatLex _ _ _ _ _ _ ((Value.int k1 t, Value.int k2 t') :: r1.zip r2) 0 _
      refine PySem.W.kat_cons (wpAny_eqBool_int ?_)
      rw [hne]
      refine PySem.W.kat_no ?_
      show wpAny _ _ (oneLt' true (Value.int k1 t) (Value.int k2 t')) _ _ _
      refine oneLt_int ?_
      rw [hnl]
      exact hC
  · refine SrtO.sorted_ord (ltv := fun _ _ => false) ⟨fun _ _ _ => rfl, fun _ _ _ _ _ => rfl⟩ hl.isList (by omega) (fun h => absurd h h2) fun out _ hb => fin out ?_
    have pm := hb.perm
    cases its with
    | nil => exact pm.eq_nil
    | cons x r =>
      have : r = [] := by
        rw [List.length_cons] at h2
        exact List.eq_nil_of_length_eq_zero (by omega)
      subst this
      exact List.perm_singleton.mp pm
/-- the first ints of tuples -/
def headsOf : List PV → Option (List Int)
  | [] => some []
  | .tup (.int i :: _) :: r => match headsOf r with
    | some is => some (i :: is)
    | none => none
  | _ :: _ => none
def riseI : List Int → Bool
  | [] => true
  | [_] => true
  | a :: b :: r => decide (a < b) && riseI (b :: r)
theorem riseI_pw : ∀ {l : List Int}, riseI l = true → l.Pairwise (· < ·)
  | [], _ => .nil
  | [_], _ => List.pairwise_singleton _ _
  | a :: b :: r, h => by
    unfold riseI at h
    rw [Bool.and_eq_true] at h
    have ih := riseI_pw h.2
    have hab := of_decide_eq_true h.1
    refine List.pairwise_cons.mpr ⟨fun z hz => ?_, ih⟩
    rcases List.mem_cons.mp hz with rfl | hz
    · exact hab
    · exact Int.lt_trans hab ((List.pairwise_cons.mp ih).1 z hz)
theorem pw_riseI : ∀ {l : List Int}, l.Pairwise (· < ·) → riseI l = true
  | [], _ => rfl
  | [_], _ => rfl
  | a :: b :: r, h => by
    obtain ⟨h1, h2⟩ := List.pairwise_cons.mp h
    unfold riseI
    rw [decide_eq_true (h1 b List.mem_cons_self), pw_riseI h2]
    rfl
def fSortX (xs : List PV) (st : Sto) : Res PV := match xs with
  | [.ref k] => match lstAt st k with
    | some ys => match headsOf ys with
      | some is => if (Nat.blt is.length 64 && riseI is) = true then .ok (.ref st.length) (st ++ [.lst ys]) else .bad
      | none => .bad
    | none => .bad
  | _ => .bad
theorem rvs_heads {W : Wd} {H : Hp} {ρ : Nat → Addr} {n : Nat} : ∀ {ps : List PV} {is : List Int} {vs : List V}, headsOf ps = some is → RVs W H ρ n ps vs → Paired (HdAt W.K H) vs is
  | [], is, vs, e, h => by
    cases e
    have h : vs = [] := h
    subst h
    exact .nil
  | p :: ps, is, vs, e, ⟨v, r, e2, h1, h2⟩ => by
    unfold headsOf at e
    split at e
    · rename_i e3
      cases e3
    · rename_i i r' ps' e3
      cases e3
      split at e
      · rename_i js ejs
        cases e
        subst e2
        obtain ⟨a, us, rfl, q, y, z, rfl, hy, hz⟩ := h1
        have hy : y = .int i := hy
        subst hy
        exact .cons ⟨a, z, rfl, q⟩ (rvs_heads ejs h2)
      · cases e
    · cases e
theorem ok_sortX : CallOK J fSortX (rSortedH J.W.K) := by
  intro E H ρ st ps xs Q r h g
  unfold fSortX at g
  split at g
  · split at g
    · rename_i k ys e1
      obtain ⟨x, rfl, _, rfl⟩ := h.one
      obtain ⟨vs, q, hv⟩ := r.seq e1
      split at g
      · rename_i is e2
        split at g
        · rename_i hc
          rw [Bool.and_eq_true] at hc
          have hp := rvs_heads e2 hv
          refine ⟨_, vs, is, rfl, q, hp, by rw [paired_len hp]; exact Nat.le_of_ble_eq_true hc.1, riseI_pw hc.2, fun p hp => ?_⟩
          exact g _ _ _ (.newL r hp hv) ⟨by simp, by rw [put_same]⟩
        · exact g.elim
      · exact g.elim
    · exact g.elim
  · exact g.elim
end
theorem e_sortX {s : Sto} {k : Nat} {ys : List PV} {is : List Int} (h : lstAt s k = some ys) (h2 : headsOf ys = some is) (h3 : is.length < 64) (h4 : is.Pairwise (· < ·)) : fSortX [.ref k] s = .ok (.ref s.length) (s ++ [.lst ys]) := by
  unfold fSortX
  dsimp only
  rw [h]
  dsimp only
  rw [h2]
  dsimp only
  rw [pw_riseI h4, show Nat.blt is.length 64 = true from Nat.ble_eq_true_of_le h3]
  rfl
end Mi
end
section
set_option maxRecDepth 100000
set_option maxHeartbeats 4000000
/-! MiTxt2: three figures of an int, a text from behind, a dict of one pair -/
namespace Mi
open PySem PySem.Spec PyProof.Rows L2
/-- a cell's three figures -/
def dg3 (c : Nat) : List Nat := [48 + c / 100, 48 + c / 10 % 10, 48 + c % 10]
def sp03 : Str := ⟨#[48, 51, 100]⟩
section
open Builtin Builtin.Str Builtin.Int Builtin.Float
def f03 : FormatSpec := match parseFormatSpec [48, 51, 100] "int" 62 with
  | .ok f => f
  | .error _ => { align := 62 }
theorem parse03 : parseFormatSpec sp03.cps.toList "int" 62 = .ok f03 := by rfl
theorem text03 : ∀ c : Nat, c < 1000 → intSpecText f03 (c : Int) = ⟨(dg3 c).toArray⟩ := by
  have h : ((List.range 1000).all fun c => decide (intSpecText f03 (c : Int) = ⟨(dg3 c).toArray⟩)) = true := by decide +kernel
  intro c hc
  exact of_decide_eq_true (List.all_eq_true.mp h c (List.mem_range.mpr hc))
theorem gives_03 {c : Nat} (h : c < 1000) (t u : Tok) : Gives («int.__format__» ⟨[.int (c : Int) t, .str sp03 u], []⟩) (.str ⟨(dg3 c).toArray⟩) := fun prog w A R s hq => by
  have hl : ((c : Int)).natAbs.log2 < 1920 := by
    have : ((c : Int)).natAbs.log2 ≤ 10 := by
      by_cases h0 : ((c : Int)).natAbs = 0
      · rw [h0]; exact Nat.zero_le _
      · rw [← Nat.lt_succ_iff, Nat.log2_lt h0]; omega
    omega
  have ht := text03 c h
  have hp := parse03
  have p1 : f03.precision = none := rfl
  have p2 : f03.noNeg0 = false := rfl
  have p3 : f03.width = some 3 := rfl
  have e1 : f03.grouping = none := rfl
  have e2 : f03.sign = none := rfl
  have e3 : f03.alt = false := rfl
  have e4 : f03.type.getD (if (sp03.cps.back? == some 0) = true then 0 else 100) = 100 := rfl
  generalize f03 = f at *
  unfold «int.__format__»
  simp only [selfAndOne, noKeywords, Int.intOfSelf, asInt?, asStr?, List.isEmpty_nil, if_true, pure_bind, bind_pure, bind_assoc, show (sp03.length == 0) = false from rfl, Bool.false_eq_true, if_false, show (Value.str sp03 u == Value.none) = false from rfl,
    show ((sp03.cps.toList.drop 1).any (· ≥ 128) || (sp03.cps.getD 0 0 ≥ 128 && !([60, 62, 61, 94] : List Nat).contains (sp03.cps.getD 1 0))) = false from rfl]
  refine wpAny_bind (wpAny_typeNameOf (T := "str") (typeIs_str _ _ _) (by decide) fun _ => ?_)
  first
    | refine wpAny_bind (wpAny_typeNameOfCut_int ?_)
    | refine wpAny_bind (wpAny_typeNameOf_int ?_)
  simp only [hp, e4]
  rw [if_pos (by decide)]
  show wpAny _ _ (if _ then _ else _) _ _ _
  rw [if_neg (by simp [p1])]
  show wpAny _ _ (if _ then _ else _) _ _ _
  rw [if_neg (by simp [p2])]
  show wpAny _ _ (if _ then _ else _) _ _ _
  rw [if_neg (by decide)]
  show wpAny _ _ (do let r ← Builtin.overDigitLimit? (c : Int); _) _ _ _
  rw [(show Builtin.overDigitLimit? (c : Int) = pure none by unfold Builtin.overDigitLimit?; exact if_pos hl), pure_bind]
  show wpAny _ _ (if _ then _ else _) _ _ _
  rw [if_neg (by simp [p3])]
  show wpAny _ _ (retStr _) _ _ _
  unfold retStr
  obtain ⟨q1, q2⟩ := hq
  rw [← ht] at q1 q2
  have k2 : ∀ z, z = intSpecText f (c : Int) → R (Except.ok (Flow.ret (Value.str z s.toks))) { s with toks := s.toks + 1 } := fun z hz => by
    rw [hz]
    exact q2
  have k1 : ∀ z, z = intSpecText f (c : Int) → z.length ≤ sizeLine := fun z hz => by
    rw [hz]
    exact q1
  refine wpAny_bind (wpAny_mkStr (wpAny_pure (k2 _ ?_)) (k1 _ ?_))
  · simp only [e3, Bool.false_eq_true, if_false, show ((10 : Nat) == 10) = true by decide, if_true]
    conv => lhs; whnf
    simp only [intSpecText, intField', e1, e2]
    rfl
  · simp only [e3, Bool.false_eq_true, if_false, show ((10 : Nat) == 10) = true by decide, if_true]
    conv => lhs; whnf
    simp only [intSpecText, intField', e1, e2]
    rfl
end
section
variable {X : Cx} {J : Jx}
/-- {e:03d} -/
def tFmt3 (te : TE) : TE := fun σ H Q => te σ H fun x H1 => ∃ c : Nat, x = .int (c : Int) ∧ c < 1000 ∧ Q (.str ⟨(dg3 c).toArray⟩) H1
theorem pe_fmt3 {e sp : Expr} {te : TE} {pos : Pos} (he : PE X e te) (hs : PE X sp (tC (.str sp03))) : PE X (.FormattedValue e (-1) (some sp) pos) (tFmt3 te) := ⟨fun pins s σ H Q I h => by
  refine wpAny_FormattedValue_spec (thn (he.run pins s σ H _ I h) fun v s1 hv => ?_)
  obtain ⟨x, H1, I1, r1, c, hx, hc, q⟩ := hv
  refine thn (hs.run pins s1 σ H1 (fun y H2 => y = .str sp03 ∧ H2 = H1) I1 ⟨rfl, rfl⟩) fun u s2 hu => ?_
  obtain ⟨y, H2, I2, r2, hy, hH⟩ := hu
  subst hx hy hH
  obtain ⟨t1, ht1⟩ := r1
  obtain ⟨t2, ht2⟩ := r2
  subst ht1 ht2
  exact ⟨sp03, t2, rfl, wpAny_formatField_spec rfl (fun s' => typeIs_int s' _ t1) F.slot_int_format F.entry_int_format F.args_int_format_2 (fun u => gives_03 hc t1 u) ⟨.str ⟨(dg3 c).toArray⟩, H2, I2.tok _, ⟨_, rfl⟩, q⟩ (by decide) (by rw [sizeLine_eq]; show (dg3 c).toArray.size ≤ _; simp [dg3])⟩⟩
def fFmt (p : PV) (st : Sto) : Res PV := match p with
  | .int i => if (decide (0 ≤ i) && decide (i < 1000)) = true then .ok (.str (dg3 i.toNat)) st else .bad
  | _ => .bad
theorem xe_fmt {e sp : Expr} {de : DE} {pos : Pos} (J2 : XJ X J) (he : PE X e (rdE J de)) (hs : PE X sp (tC (.str sp03))) : PE X (.FormattedValue e (-1) (some sp) pos) (rdE J (dUn fFmt de)) :=
  PE.imp (pe_fmt3 he hs) fun σ H Q h => rd_bind J2.st h fun ρ th env st v x H1 S rv g => by
    unfold fFmt at g
    split at g
    · split at g
      · rename_i i hi
        rw [Bool.and_eq_true] at hi
        have h1 := of_decide_eq_true hi.1
        have h2 := of_decide_eq_true hi.2
        have hx : x = .int i := rv
        exact ⟨i.toNat, by rw [hx]; congr 1; omega, by omega, g H1 ρ _ (.refl S.rs) rfl⟩
      · exact g.elim
    · exact g.elim
theorem xe_spec {z : Str} {j : Nat} {p pos : Pos} (hz : z = sp03) : PE X (.JoinedStr [.Constant (.str z) j p] pos) (tC (.str sp03)) := by
  subst hz
  exact pe_joined1 pe_str
theorem xe_js1 {e : Expr} {de : DE} {pos : Pos} (he : PE X e (rdE J de)) : PE X (.JoinedStr [e] pos) (rdE J de) := pe_joined1 he
/-- x[::-1] of a text -/
def tRevS (te : TE) : TE := fun σ H Q => te σ H fun x H1 => ∃ z : Str, x = .str z ∧ z.length ≤ sizeLine ∧ Q (.str ⟨z.cps.toList.reverse.toArray⟩) H1
theorem back_made (z : Str) (t tk : Tok) : sliceMade z t none none (some (-1, tk)) = .str ⟨z.cps.toList.reverse.toArray⟩ := by
  have e : slicePicked z none none (some (-1, tk)) = (List.range z.cps.size).reverse := by
    show Builtin.Str.strSliceIndices none none (-1) z.cps.size = _
    have : Builtin.Str.strSliceIndices none none (-1) z.cps.size = sliceRange ((z.cps.size : Int) - 1) (-1) (-1) := by
      unfold Builtin.Str.strSliceIndices
      rfl
    rw [this, PySem.W.krv_sliceRange, PySem.W.krv_range]
  unfold sliceMade
  rw [e, List.filterMap_reverse, PySem.W.krv_all]
  rfl
theorem pe_revS {e : Expr} {te : TE} {k : Nat} {p1 p2 p3 pos : Pos} (he : PE X e te) : PE X (.Subscript e (.Slice none none (some (.UnaryOp .USub (.Constant (.int 1) k p1) p2)) p3) pos) (tRevS te) := ⟨fun pins s σ H Q I h => by
  have minus : PO X (some (.UnaryOp .USub (.Constant (.int 1) k p1) p2)) (tPart (tUn (rU fun i => .int (-i)) (tC (.int 1)))) := po_some (pe_un un_neg pe_int)
  refine Subscript_ (thn (he.run pins s σ H _ I h) fun v s1 hv => ?_)
  obtain ⟨x, H1, I1, r1, z, hx, hz, q⟩ := hv
  subst hx
  obtain ⟨t, ht⟩ := r1
  subst ht
  refine wpAny_Slice (thn (po_none.run pins s1 σ H1 (fun o K => o = none ∧ K = H1) I1 ⟨rfl, rfl⟩) fun vl s2 h2 => ?_)
  obtain ⟨l, H2, I2, pl, e2, k2⟩ := h2
  subst e2 k2
  refine thn (po_none.run pins s2 σ H2 (fun o K => o = none ∧ K = H2) I2 ⟨rfl, rfl⟩) fun vu s3 h3 => ?_
  obtain ⟨u, H3, I3, pu, e3, k3⟩ := h3
  subst e3 k3
  refine thn (minus.run pins s3 σ H3 (fun o K => o = some (-1) ∧ K = H3) I3 ⟨1, rfl, -1, rfl, rfl, rfl⟩) fun vs s4 h4 => ?_
  obtain ⟨o, H4, I4, ps, e4, k4⟩ := h4
  subst e4 k4
  cases pl
  cases pu
  cases ps with
  | int _ tk =>
    have I5 : Inv X pins σ H4 { s4 with heap := s4.heap.push { cls := .type "slice", data := .fields #[.none, .none, .int (-1) tk] } } := I4.kept (t' := s4.toks) fun b ob q => Heap.get?_push_of_some _ q
    refine tail_any (s := { s4 with heap := s4.heap.push { cls := .type "slice", data := .fields #[.none, .none, .int (-1) tk] } }) (typeIs_str _ z t) F.slot_str_getitem.lookup ?_ (by with_unfolding_all rfl)
    refine wpAny_getItem_str_slice (l := none) (u := none) (st := some (-1, tk)) ⟨_, Heap.get?_push_size _ rfl, rfl, rfl⟩ rfl ?_
    rw [back_made]
    refine ⟨?_, .str _, H4, I5.tok _, ⟨_, rfl⟩, q⟩
    show z.cps.toList.reverse.toArray.size ≤ sizeLine
    simp
    exact hz⟩
def fRev (p : PV) (st : Sto) : Res PV := match p with
  | .str s => if szOk s.length = true then .ok (.str s.reverse) st else .bad
  | _ => .bad
theorem xe_rev {e : Expr} {de : DE} {k : Nat} {p1 p2 p3 pos : Pos} (J2 : XJ X J) (he : PE X e (rdE J de)) : PE X (.Subscript e (.Slice none none (some (.UnaryOp .USub (.Constant (.int 1) k p1) p2)) p3) pos) (rdE J (dUn fRev de)) :=
  PE.imp (pe_revS he) fun σ H Q h => rd_bind J2.st h fun ρ th env st v x H1 S rv g => by
    unfold fRev at g
    split at g
    · split at g
      · rename_i s hs
        have hx : x = .str (toS s) := rv
        refine ⟨toS s, hx, by rw [str_len]; exact szOk_le hs, g H1 ρ _ (.refl S.rs) ?_⟩
        show _ = V.str ⟨s.reverse.toArray⟩
        show V.str ⟨(s.toArray.toList).reverse.toArray⟩ = _
        simp
      · exact g.elim
    · exact g.elim
/-- {key: value} of constants -/
def dDict1 (k : List Nat) (i : Int) : DE := fun _ _ st => .ok (.ref st.length) (st ++ [.dct [(.inr (toS k), .int i)]])
theorem xe_dict1 {z : Str} {i : Int} {k : List Nat} {j1 j2 : Nat} {p1 p2 pos : Pos} (hz : z = toS k) : PE X (.Dict [some (.Constant (.str z) j1 p1)] [.Constant (.int i) j2 p2] pos) (rdE J (dDict1 k i)) := by
  subst hz
  refine PE.imp (pe_disp (pps_cons pe_str pe_int pps_nil) rfl rfl (by simp) (by simp)) fun σ H Q h => ?_
  obtain ⟨ρ, th, env, st, S, g⟩ := h
  intro p hp
  refine ⟨upd_same, [(.inr (toS k), .int i)], rfl, by simp, ?_⟩
  rw [upd_upd]
  exact g _ _ _ (.alloc (so := .dct [(.inr (toS k), .int i)]) S.rs hp ⟨[(.inr (toS k), .int i)], upd_same, .int i, [], rfl, rfl, rfl⟩ rfl) ⟨by simp, by rw [put_same]⟩
end
end Mi
end
section
set_option maxRecDepth 100000
set_option maxHeartbeats 4000000
/-! MiTry: several except clauses, each with or without a name -/
namespace Mi
open PySem PySem.Spec PyProof.Rows L2
abbrev Cl : Type := Value × Option Nat × (Addr → Value → Option Addr → TS)
/-- how a suite ends where its clause's name has slot i -/
def endsOf (D : Ends) : Option Nat → Ends
  | none => D
  | some i => { nx := fun σ H => D.nx (σ.set i none) H, rt := D.rt, bk := fun σ H => D.bk (σ.set i none) H, ct := fun σ H => D.ct (σ.set i none) H }
def slotOf (a : Addr) (σ : L2.St) : Option Nat → L2.St
  | none => σ
  | some i => σ.set i (some (.ref a))
/-- what the clauses wish of an exception -/
def wMix (K : PySem.W.Frag) (Wout : WX) (D : Ends) : List Cl → WX
  | [] => Wout
  | p :: r => fun cls d σ H => ∃ b, PySem.W.exmOne K cls p.1 = some b ∧ (b = true → ∀ a, H a = none → p.2.2 a cls d (endsOf D p.2.1) (slotOf a σ p.2.1) H) ∧ (b = false → wMix K Wout D r cls d σ H)
/-- a clause's name: none, or a local one with its slot -/
def NameOk (X : Cx) : Option Str → Option Nat → Prop
  | none, none => True
  | some n, some i => X.N.Nodup ∧ X.N[i]? = some n ∧ X.env.kindOf n = some .local
  | _, _ => False
/-- the clauses are walked -/
inductive MixOk (X : Cx) : List ExceptHandler → List Cl → Prop
  | nil : MixOk X [] []
  | cons {x : Str} {n : Option Str} {i : Option Nat} {c : Value} {ts : Addr → Value → Option Addr → TS} {b : Stmt} {bs : List Stmt} {p q : Pos} {hs : List ExceptHandler} {l : List Cl} (hc : Names X x c) (hn : NameOk X n i)
      (hb : ∀ (a : Addr) (o : Obj) (cls : Value) (d : Option Addr) (pn : List (Addr × Obj)), Zc cls d o → (∃ vs, o.data = .fields vs) → PSs (X.suite a ((a, o) :: pn)) (b :: bs) (ts a cls d)) (r : MixOk X hs l) :
      MixOk X (.ExceptHandler (some (.Name x p)) n (b :: bs) q :: hs) ((c, i, ts) :: l)
section
variable {X : Cx} {pins : List (Addr × Obj)} {D : Ends}
/-- an exception that has been caught and waits at the clauses: its state -/
structure Wait (X : Cx) (pins : List (Addr × Obj)) (a : Addr) (cls : Value) (d : Option Addr) (σ : L2.St) (H : Hp) (B : Heap) (sI s : Shared) : Prop where
  inv : Inv X pins σ H sI
  gnd : ∀ b o, sI.heap.get? b = some o → b ∉ frs X.stack → B.get? b = some o
  up : sI.heap.UpToSlots s.heap
  fly : HandSPX.FlyingZ B (X.env :: X.outer) a (Zc cls d) s.heap
  new : H a = none
  os : s.os = sI.os
  gen : AllBare s.gens
theorem Wait.at {a : Addr} {cls : Value} {d : Option Addr} {σ : L2.St} {H : Hp} {B : Heap} {sI s : Shared} (w : Wait X pins a cls d σ H B sI s) : Inv X pins σ H s := w.inv.landed w.gnd w.fly.1 w.up w.os w.gen
/-- the suite's own state -/
theorem Wait.suite (hf : X.env.frame = some X.env.locals) {a : Addr} {cls : Value} {d : Option Addr} {σ : L2.St} {H : Hp} {B : Heap} {sI s : Shared} (w : Wait X pins a cls d σ H B sI s) :
    ∃ o, s.heap.get? a = some o ∧ Zc cls d o ∧ (∃ vs, o.data = .fields vs) ∧ Inv (X.suite a ((a, o) :: (X.pn ++ pins))) [] σ H s := by
  obtain ⟨o, vs, e, z, f⟩ := w.fly.there
  have away : a ∉ frs (X.env :: X.outer) := fun m => by
    obtain ⟨_, o', e', k⟩ := w.fly.2.2.1.mem m
    cases e.symm.trans e'
    exact k _ f
  have n1 : a ≠ X.env.locals := fun z => away (List.mem_filterMap.mpr ⟨X.env, List.mem_cons_self, by rw [hf, z]⟩)
  have n2 : a ∉ X.fs := fun m => by
    obtain ⟨g, hg, q⟩ := List.mem_filterMap.mp m
    exact away (List.mem_filterMap.mpr ⟨g, List.mem_cons_of_mem _ hg, q⟩)
  exact ⟨o, e, z, ⟨vs, f⟩, w.at.suite e f w.new n1 n2⟩
/-- no clause takes it: it goes on -/
theorem Wait.none (hs : X.stack = X.env :: X.outer) (hf : X.env.frame = some X.env.locals) {Wout : WX} (tk : Takes X Wout) {a : Addr} {cls : Value} {d : Option Addr} {σ : L2.St} {H : Hp} {B : Heap} {sI s : Shared} (w : Wait X pins a cls d σ H B sI s) (hw : Wout cls d σ H) :
    wpAny (model X.prog X.w) X.A (handleBy (.ref a) X.env []) (SP X pins D) X.xe s := by
  refine wpAny_handleBy_nil ?_
  obtain ⟨_, _, _, o, vs, T, oT, t', e, z, f, h1, _⟩ := id w.fly
  unfold PySem.passOn
  refine wpAny_bind (wpAny_field e f h1 ?_)
  rw [if_neg (show ¬ ((Value.ref T == Value.none) = true) by simp)]
  have out : wpAny (model X.prog X.w) X.A (setFlight (.ref a) X.env.frame) (fun _ t => wpAny (model X.prog X.w) X.A (throw (.ref a) : Sem Flow) (SP X pins D) X.xe t) X.xe s := by
    rw [hf]
    exact HandSPX.setFlight_upZ w.fly fun h hh u => wpAny_throw (tk _ _ ⟨a, B, sI, pins, σ, H, cls, d, rfl, w.inv, w.gnd, w.up.trans u, .inr (.inr (by rw [hs]; exact hh)), w.new, w.os, w.gen, hw⟩)
  first
    | exact wpAny_bind (wpAny_pure (wpAny_bind out))
    | exact wpAny_bind out
/-- a clause's class is looked up -/
theorem Wait.cls {x : Str} {c : Value} {np : Pos} (hf : X.env.frame = some X.env.locals) (hc : Names X x c) {a : Addr} {cls : Value} {d : Option Addr} {σ : L2.St} {H : Hp} {B : Heap} {sI s : Shared} (w : Wait X pins a cls d σ H B sI s) {Q : Value → Shared → Prop} {E : Value → Shared → Prop} (q : Q c s) :
    wpAny (model X.prog X.w) (X.A.mark (some (.ref a))) (eval (.Name x np) X.env) Q E s := by
  obtain ⟨o, _, _, _, S⟩ := w.suite hf
  obtain ⟨hg, hd, hm | ⟨hm, hv, hn⟩⟩ := hc
  · exact ld_glob (X := X.suite a ((a, o) :: (X.pn ++ pins))) S hg hm q hd
  · exact ld_blt (X := X.suite a ((a, o) :: (X.pn ++ pins))) S hg hm hv q hn hd
/-- what a suite leaves, out of its context -/
theorem suite_out {a : Addr} {o : Obj} {s : Shared} {f : Flow} (ok : X.Ok) (h : SP (X.suite a ((a, o) :: (X.pn ++ pins))) [] D f s) : SP X pins D f s := by
  cases f with
  | ret u =>
    obtain ⟨v, σ, H, S, r, q⟩ := h
    exact ⟨v, σ, H, S.unsuite ok, r, q⟩
  | next =>
    obtain ⟨σ, H, S, q⟩ := h
    exact ⟨σ, H, S.unsuite ok, q⟩
  | brk =>
    obtain ⟨σ, H, S, q⟩ := h
    exact ⟨σ, H, S.unsuite ok, q⟩
  | cont =>
    obtain ⟨σ, H, S, q⟩ := h
    exact ⟨σ, H, S.unsuite ok, q⟩
/-- the same, the clause's name then goes -/
theorem suite_gone {a : Addr} {o : Obj} {s : Shared} {f : Flow} {n : Str} {i : Nat} {pos : Pos} {E : Value → Shared → Prop} (ok : X.Ok) (hN : X.N.Nodup) (hi : X.N[i]? = some n) (hl : X.env.kindOf n = some .local) (h : SP (X.suite a ((a, o) :: (X.pn ++ pins))) [] (endsOf D (some i)) f s) :
    wpAny (model X.prog X.w) X.A (do bindName X.env n .none; unbindBehindTheSuite X.env n pos) (fun _ t => SP X pins D f t) E s := by
  cases f with
  | ret u =>
    obtain ⟨v, σ, H, S, r, q⟩ := h
    exact gone_ok (S.unsuite ok) hN hi hl fun t J => ⟨v, _, H, J, r, q⟩
  | next =>
    obtain ⟨σ, H, S, q⟩ := h
    exact gone_ok (S.unsuite ok) hN hi hl fun t J => ⟨_, H, J, q⟩
  | brk =>
    obtain ⟨σ, H, S, q⟩ := h
    exact gone_ok (S.unsuite ok) hN hi hl fun t J => ⟨_, H, J, q⟩
  | cont =>
    obtain ⟨σ, H, S, q⟩ := h
    exact gone_ok (S.unsuite ok) hN hi hl fun t J => ⟨_, H, J, q⟩
/-- the clauses, one after the other -/
theorem clauses (hs : X.stack = X.env :: X.outer) (hf : X.env.frame = some X.env.locals) (ok : X.Ok) {Wout : WX} (tk : Takes X Wout) {a : Addr} {cls : Value} {d : Option Addr} {σ : L2.St} {H : Hp} {B : Heap} {sI s : Shared} (w : Wait X pins a cls d σ H B sI s) :
    ∀ {hds : List ExceptHandler} {l : List Cl}, MixOk X hds l → wMix X.K Wout D l cls d σ H → wpAny (model X.prog X.w) X.A (handleBy (.ref a) X.env hds) (SP X pins D) X.xe s := by
  intro hds l hm
  induction hm with
  | nil => exact fun hw => w.none hs hf tk hw
  | @cons x n i c ts b bs p q hs' l' hc hn hb r ih =>
    rintro ⟨yes, e, h1, h0⟩
    obtain ⟨o, eo, zo, _, _⟩ := w.suite hf
    have typ : PySem.W.Looks (model X.prog X.w) s.heap (typeOf (.ref a)) cls := fun A Q E t k z => wpAny_typeOf_ref (k _ _ eo) (by rw [zo.1]; exact z)
    refine wpAny_handleBy_cons (codeAny_handlers_test (w.cls hf hc ((PySem.W.exm_one (M := model X.prog X.w) w.at.kIn typ e).here ?_))) (fun z => nomatch z)
    cases yes with
    | false => exact ih (h0 rfl)
    | true =>
      have go := h1 rfl a w.new
      cases n with
      | none =>
        cases i with
        | some i => exact hn.elim
        | none =>
          refine codeAny_handlers_suite (HandSPX.lands_againZ w.fly fun h fl u => ?_)
          have w2 : Wait X pins a cls d σ H B sI { s with heap := h } := ⟨w.inv, w.gnd, w.up.trans u, fl, w.new, w.os, w.gen⟩
          obtain ⟨o2, _, z2, f2, S⟩ := w2.suite hf
          exact wpAny_mono ((hb a o2 cls d (X.pn ++ pins) z2 f2).run [] _ _ H _ S go) (fun f t k => suite_out ok k) fun _ _ z => z.elim
      | some n =>
        cases i with
        | none => exact hn.elim
        | some i =>
          obtain ⟨hN, hi, hl⟩ := hn
          refine codeAny_handlers_suite_as (HandSPX.lands_againZ w.fly fun h fl u => ?_)
          have w2 : Wait X pins a cls d σ H B sI { s with heap := h } := ⟨w.inv, w.gnd, w.up.trans u, fl, w.new, w.os, w.gen⟩
          obtain ⟨o2, _, z2, f2, S⟩ := w2.suite hf
          refine store_ok (X := X.suite a ((a, o2) :: (X.pn ++ pins))) (v := .ref a) S hN hi (.inl hl) rfl (fun t T => ?_) (.inr hl)
          exact wpAny_mono ((hb a o2 cls d (X.pn ++ pins) z2 f2).run [] t _ H _ T go) (fun f t2 k => suite_gone ok hN hi hl k) fun _ _ z => z.elim
end
section
variable {X : Cx} {body : List Stmt} {h₀ : ExceptHandler} {hds : List ExceptHandler} {l : List Cl} {pos : Pos} {tb : WX → TS} {Wout : WX}
theorem ps_try_mix (hs : X.stack = X.env :: X.outer) (hf : X.env.frame = some X.env.locals) (tk : Takes X Wout) (hb : ∀ (W : WX) (pn : List (Addr × Obj)) (xe : Value → Shared → Prop), Takes (X.tr pn xe) W → PassesOwn (model X.prog X.w) X.A X.env xe → PSs (X.tr pn xe) body (tb W))
    (hh : MixOk X (h₀ :: hds) l) : PS X (.Try body (h₀ :: hds) [] [] pos) (fun D σ H => tb (wMix X.K Wout D l) D σ H) := ⟨fun pins s σ H D I h => by
  have ok := I.ok
  have fr : X.A.frames = some (X.env :: X.outer) := by rw [ok.frames, hs]
  have catch_ : ∀ (xe : Value → Shared → Prop) u t, XE (X.tr (X.pn ++ pins) xe) (wMix X.K Wout D l) u t → wpAny (model X.prog X.w) X.A (noteFrame u X.env) (fun _ t2 => wpAny (model X.prog X.w) X.A (setFlight u none) (fun _ t3 => wpAny (model X.prog X.w) X.A (handleBy u X.env (h₀ :: hds)) (SP X pins D) X.xe t3) X.xe t2) X.xe t := by
    rintro xe u t ⟨a, B, sI, pins', σ', H', cls, d, rfl, J, nb, up, sky, na, os, ag, w⟩
    rw [show (X.tr (X.pn ++ pins) xe).stack = X.env :: X.outer from hs] at sky
    exact Sky.land Zc.steady fr hf sky fun h fl u => clauses (s := { t with heap := h }) hs hf ok tk ⟨J.ofTry ok, nb, up.trans u, fl, na, os, ag⟩ hh w
  refine wpAny_Try_except (wpAny_mono ((hb (wMix X.K Wout D l) (X.pn ++ pins) (fun e t => wpAny (model X.prog X.w) X.A (noteFrame e X.env) (fun _ t2 => wpAny (model X.prog X.w) X.A (setFlight e none) (fun _ t3 => wpAny (model X.prog X.w) X.A (handleBy e X.env (h₀ :: hds)) (SP X pins D) X.xe t3) X.xe t2) X.xe t) (fun u t k => catch_ _ u t k) PassesOwn.looking).run [] s σ H D (I.toTry _) h) (fun f t k => ?_) fun _ _ k => k)
  cases f with
  | ret u =>
    obtain ⟨v, σ', H', J, r, q⟩ := k
    exact ⟨v, σ', H', J.ofTry ok, r, q⟩
  | next =>
    obtain ⟨σ', H', J, q⟩ := k
    exact wpAny_execs_nil ⟨σ', H', J.ofTry ok, q⟩
  | brk =>
    obtain ⟨σ', H', J, q⟩ := k
    exact ⟨σ', H', J.ofTry ok, q⟩
  | cont =>
    obtain ⟨σ', H', J, q⟩ := k
    exact ⟨σ', H', J.ofTry ok, q⟩⟩
end
end Mi
end
section
set_option maxRecDepth 100000
set_option maxHeartbeats 4000000
/-! MiInit: an own exception class straight over a built-in one; its __init__ says super().__init__('..') and keeps one field -/
namespace Mi
open PySem PySem.Spec PyProof.Rows L2 PySem.W
theorem seqItems_none : seqItems? .none = pure none := by first | rfl | kernel_rfl
theorem bind2 {fd : FuncData} {a g : Str} {u v : Value} {e1 e2 : Option Expr} {q1 q2 : Pos} (h : g ≠ a) (hp : fd.params = ⟨[], [⟨a, e1, q1⟩, ⟨g, e2, q2⟩], none, [], [], none, []⟩) (hd : fd.defaults = .none) : bindArgs fd ⟨[u, v], []⟩ = pure [(a, u), (g, v)] := by
  have n1 : (g == a) = false := beq_eq_false_iff_ne.mpr h
  have l1 : ([(a, u), (g, v)] : List (Str × Value)).lookup a = some u := by simp [List.lookup]
  have l2 : ([(a, u), (g, v)] : List (Str × Value)).lookup g = some v := by simp [List.lookup, n1]
  unfold bindArgs
  rw [hp, hd, seqItems_none]
  simp [l1, l2, List.filter, List.filterMap]
/-- the def __init__ -/
structure InitB (K : Frag) (file : Str) (C fI : Addr) (f : Str) (q : Str) (g msg : Str) (an1 an2 : Option Expr) (j : Nat) (q1 q2 p0 p1 p2 p3 p4 p5 p6 p7 p8 p9 : Pos) (scope : Scope) (cc cda : Addr) : Prop where
  fn : ∃ (oc : Value) (od : Option Addr) (osl : Array (Option Value)) (kV doc pm ct : Value) (an : Option Addr), K.lookup fI = some ⟨oc, od, .func (ksFn "__init__" q ⟨[], [⟨"self", an1, q1⟩, ⟨g, an2, q2⟩], none, [], [], none, []⟩
    [.Expr (.Call (.Attribute (.Call (.Name "super" p0) [] [] p1) "__init__" p2) [.Constant (.str msg) j p3] [] p4) p5, .Assign [.Attribute (.Name "self" p6) f p7] (.Name g p8) p9] scope .none kV doc pm an (.ref cda) ct cc), osl⟩
  cod : codeIn K (.ref cda) q = true
  fil : ∃ (ccl : Value) (cdd : Option Addr) (vs : Array Value) (ccs : Array (Option Value)) (tf : Tok), K.lookup cda = some ⟨ccl, cdd, .fields vs, ccs⟩ ∧ vs[2]? = some (.str file tf)
  cel : ∃ (cl : Value) (cld : Option Addr) (csl : Array (Option Value)), K.lookup cc = some ⟨cl, cld, .cell (some (.ref C)), csl⟩
  gs : g ≠ "self"
  gd : (g == ("__debug__" : Str)) = false
  kd : scope.kind = .function
  co : scope.isCoroutine = false
  gen : scope.isGenerator = false
  nc : ∀ y ∈ scope.names, y.2 ≠ .cell
  ls : scope.names.lookup ("self" : Str) = some .local
  lg : scope.names.lookup g = some .local
  lc : scope.names.lookup ("__class__" : Str) = some .free
  lu : scope.names.lookup ("super" : Str) = some .globalImplicit
  ln : (p2.endLine == p4.line) = true
/-- the class -/
structure OwnI (K : Frag) (C fI : Addr) (B newId initId : String) (bmB : List Value) (f : Str) : Prop where
  cls : ∃ nm q N bs sn sub ab col dd k0 k1 k2 k3 k5, K.lookup C = some (excClassObj nm q C N bs bmB true sn sub ab col dd k0 k1 k2 k3 k5 newId)
  sa : findIn K (.ref C) "__setattr__" = some (some (.builtin "object.__setattr__"))
  no : findIn K (.ref C) f = some none
  exC : subIn K (.ref C) (.type "BaseException") = some true
  exB : subIn K (.ref C) (.type B) = some true
  tyC : typeIn K (.ref C) = some (.type "type")
  kC : keepIn K (.ref C) = true
  ini : findIn K (.ref C) "__init__" = some (some (.ref fI))
  tyI : typeIn K (.ref fI) = some (.type "function")
  sup : ks_superIn K C C "__init__" = some (some (.builtin initId))
  opq : nsIn K cStatics "thirdparty.any" = some none
section
variable {prog : Program} {w : World} {K : Frag} {mg : Str → Option Value} {A : Around} {R : Result → Shared → Prop} {hp : Heap} {gn : Array GenState} {dr : Drawn} {t : Nat} {os : OsState}
variable {C fI x t0 : Addr} {B newId initId : String} {bmB : List Value} {f file : Str} {v : Value}
variable {q g msg : Str} {an1 an2 : Option Expr} {j : Nat} {q1 q2 p0 p1 p2 p3 p4 p5 p6 p7 p8 p9 : Pos} {scope : Scope} {cc cda : Addr}
theorem OwnI.cd (O : OwnI K C fI B newId initId bmB f) : ∃ cd, clsIn K C = some cd ∧ cd.mro = .ref C :: bmB ∧ cd.hasDict = true := by
  obtain ⟨nm, q, N, bs, sn, sub, ab, col, dd, k0, k1, k2, k3, k5, hC⟩ := O.cls
  exact ⟨_, by unfold clsIn; rw [hC] <;> rfl, rfl, rfl⟩
theorem excTail_self (bmB : List Value) (h : ∀ c r, bmB ≠ .ref c :: r) : excTail bmB bmB = true := by
  cases bmB with
  | nil => rfl
  | cons a r => cases a <;> first | exact absurd rfl (h _ _) | exact beq_self_eq_true _
theorem OwnI.over (O : OwnI K C fI B newId initId bmB f) (h : ∀ c r, bmB ≠ .ref c :: r) : excOver K C bmB = true := by
  obtain ⟨cd, h1, h2, _⟩ := O.cd
  unfold excOver
  rw [h1]
  show (match cd.mro with | .ref C' :: bm => C' == C && excTail bmB bm | _ => false) = true
  rw [h2]
  show (C == C && excTail bmB bmB) = true
  rw [excTail_self bmB h, beq_self_eq_true]
  rfl
/-- self.f = v: the first field -/
theorem osa_own (SF : StoreFacts B bmB "object.__setattr__" "object") (O : OwnI K C fI B newId initId bmB f) (hb : ∀ c r, bmB ≠ .ref c :: r) (X : K.In hp) {tk : Tok} (hx : hp.get? x = some (PySem.HandSPX.excO C t0))
    (hq : ∀ h' tk' dx, (∀ b o, b ≠ x → hp.get? b = some o → h'.get? b = some o) → hp.objs.size ≤ dx → dx ≠ x → h'.get? x = some { cls := .ref C, dict := some dx, data := .fields #[.ref t0, .none, .none, .none, .bool false, .none] } →
      h'.Ns1 dx (fun y => if y = f then some v else none) → R (.ok (.ret .none)) ⟨h', gn, dr, tk', os⟩) :
    codeAny (model prog w) A (.call (.builtin "object.__setattr__") ⟨[.ref x, .str f tk, v], []⟩) R ⟨hp, gn, dr, t, os⟩ := by
  obtain ⟨cd, hc, hm, hd⟩ := O.cd
  have ht : takerIn K C f = some none := by
    unfold takerIn
    rw [O.no]
    rfl
  have hxs : x ≠ hp.objs.size := Nat.ne_of_lt (Heap.lt_size hx)
  refine osa_openX (s := ⟨hp, gn, dr, t, os⟩) (od := none) SF X ⟨hx, rfl, rfl, trivial⟩ (O.over hb) ht fun b => ?_
  refine wpAny_bind (wpAny_pure (wpAny_bind (instanceDict_exc (s := ⟨hp, gn, dr, t, os⟩) (t := t0) (c2 := .none) hx (looks_clsIn X hc) hd ?_)))
  show wpAny _ _ (Builtin.ObjectAttr.storeInDict hp.objs.size (.str f tk) f v) _ _ _
  have hx₁ : (hp.push (dictOf [] 0)).get? x = some (PySem.HandSPX.excO C t0) := Heap.get?_push_of_some _ hx
  refine PySem.HandSPX.store_in_new ⟨_, #[], _, (Heap.get?_update_ne _ _ _ _ hxs.symm).trans (Heap.get?_push_at rfl rfl), rfl, fun e he => absurd he (by simp), fun _ => rfl⟩ fun h' tk' hn' hs => ?_
  refine hq h' tk' hp.objs.size (fun b o hb ho => ?_) (Nat.le_refl _) hxs.symm ?_ hn'
  · exact (hs.2 b (Nat.ne_of_lt (Heap.lt_size ho))).trans ((Heap.get?_update_ne _ _ _ _ hb).trans (Heap.get?_push_of_some _ ho))
  · exact (hs.2 x hxs).trans (Heap.get?_update_self _ hx₁ rfl)
/-- the built-in's __init__ bound to the exception, called -/
theorem call_mw {E : Value → Shared → Prop} (FB : ExcBaseFacts B newId initId bmB) (O : OwnI K C fI B newId initId bmB f) (X : K.In hp) {u : Addr} {rest : List Value} {Q : Value → Shared → Prop} (hx : hp.get? x = some (PySem.HandSPX.excO C t0)) (hu : hp.get? u = some (kxs_mw initId x)) (hz : rest.length ≤ sizeLine)
    (h : ∀ h' t1, (∀ b o, b ≠ x → hp.get? b = some o → h'.get? b = some o) → h'.get? x = some (PySem.HandSPX.excO C t1) → Q .none ⟨h', gn, dr, t, os⟩) : wpAny (model prog w) A (call (.ref u) rest) Q E ⟨hp, gn, dr, t, os⟩ := by
  obtain ⟨nm, q, N, bs, sn, sub, ab, col, dd, k0, k1, k2, k3, k5, hC⟩ := O.cls
  refine wpAny_call (codeAny_of_tree ?_)
  show wpAny _ A.in1 (callAny (.ref u) ⟨rest, []⟩) _ _ _
  unfold callAny
  refine wpAny_bind (wpAny_load hu ?_)
  simp only [show (Value.type "method-wrapper" == Value.type "method" || Value.type "method-wrapper" == Value.type "builtin_function_or_method" || Value.type "method-wrapper" == Value.type "method-wrapper") = true by decide, if_true]
  refine KFB.if_so (by decide) (wpAny_bind (check_bound_init FB.toExcCallFacts (X _ _ hC) hx rfl (wpAny_bind (wpAny_pure (wpAny_pure ⟨plainId_quiet FB.init.plain _, codeAny_builtin FB.initEntry ?_⟩)))))
  exact exc_init_tree (cls := .ref C) (t0 := t0) (dv := none) (c2 := .none) (c3 := .none) (b4 := .bool false) hx hz fun h' k e1 _ => h h' _ k e1
theorem Ns.at {h h' : Heap} {L : Addr} {m : Str → Option Value} (n : h.Ns L m) (k : ∀ o, h.get? L = some o → h'.get? L = some o) : h'.Ns L m := by
  obtain ⟨o, es, ep, e, r⟩ := n
  exact ⟨o, es, ep, k o e, r⟩
theorem call_eq {o : Expr} {e : Expr} {name : Str} {p2 p4 : Pos} {env : PySem.Env} (ln : (p2.endLine == p4.line) = true) (hst : starEach [e] env = [(false, eval e env)]) : eval (.Call (.Attribute o name p2) [e] [] p4) env = (do
      let ov ← attributeBase o name env (eval o env)
      standAt p2.atName
      let (f, first) ← holding [ov] (getMethod ov name (do return (← importBound o env).getD true))
      callWith p4 f first (backTo p4 (starEach [e] env)) []) := by
  rw [arm_eval_Call]
  unfold methodCall
  have h1 : methodCallPos (methodCallForm ([e].length + ([] : List Keyword).length) (backTo p4 (starEach [e] env)) (backToKw p4 (keywordEach [] env))) o env p2 p4 = pure p4 := by
    unfold methodCallPos
    rw [ln, Bool.or_true]
    rfl
  rw [h1, hst]
  rfl
/-- the whole __init__ -/
theorem init_run (KF : KxsFacts B initId) (FB : ExcBaseFacts B newId initId bmB) (SF : StoreFacts B bmB "object.__setattr__" "object") (hb : ∀ c r, bmB ≠ .ref c :: r) (O : OwnI K C fI B newId initId bmB f)
    (IB : InitB K file C fI f q g msg an1 an2 j q1 q2 p0 p1 p2 p3 p4 p5 p6 p7 p8 p9 scope cc cda) (hfile : prog.main.file = file) (htop : (prog.main.scope.names.lookup ("super" : Str)).isSome = false) (M : L2.Mod K mg hp) (hs : mg "super" = none) (hroom : A.depth < recursionLimit)
    (hx : hp.get? x = some (PySem.HandSPX.excO C t0)) (nK : K.lookup x = none)
    (h : ∀ h' tk dx t1, (∀ b o, b ≠ x → hp.get? b = some o → h'.get? b = some o) → hp.objs.size ≤ dx → dx ≠ x → h'.get? x = some { cls := .ref C, dict := some dx, data := .fields #[.ref t1, .none, .none, .none, .bool false, .none] } →
      h'.Ns1 dx (fun y => if y = f then some v else none) → R (.ok (.ret .none)) ⟨h', gn, dr, tk, os⟩) :
    codeAny (model prog w) A (.call (.ref fI) ⟨[.ref x, v], []⟩) R ⟨hp, gn, dr, t, os⟩ := by
  obtain ⟨oc, od, osl, kV, doc, pm, ct, an, hf⟩ := IB.fn
  obtain ⟨ccl, cdd, vs, ccs, tf, hcode, hvs⟩ := IB.fil
  obtain ⟨cl, cld, csl, hcell⟩ := IB.cel
  obtain ⟨cd, hcd, hm, hhd⟩ := O.cd
  obtain ⟨nm, qn, N, bs, sn, sub, ab, col, dd, k0, k1, k2, k3, k5, hC⟩ := O.cls
  obtain ⟨mb, hbn, hbb⟩ := M.blt
  have hsup : alongIn K "__init__" ((cd.mro.dropWhile (· != .ref C)).drop 1) = some (some (.builtin initId)) := by
    have z := O.sup
    unfold ks_superIn at z
    rw [hcd] at z
    exact z
  have hsub : mroIn K C (.ref C) = some true := by
    unfold mroIn
    rw [hcd, Option.bind_some, hm, if_neg (show ¬ ((Value.ref C :: bmB).isEmpty = true) from Bool.false_ne_true), List.contains_cons, beq_self_eq_true]
    rfl
  have xL : hp.objs.size ≠ x := Nat.ne_of_gt (Heap.lt_size hx)
  refine ks_codeAny_call_defAt (s := ⟨hp, gn, dr, t, os⟩) (binds := [("self", .ref x), (g, v)]) hroom (M.kin _ _ hf) rfl M.nolimit (codeRec_of M.kin IB.cod) rfl (BindsTo.of_eq (bind2 IB.gs rfl rfl)) IB.nc (fun y hy => ?_) (fun h₁ hns hk₁ => ?_) IB.co IB.gen IB.kd
  · rcases List.mem_cons.mp hy with rfl | hy
    · exact IB.ls
    · rcases List.mem_cons.mp hy with rfl | hy
      · exact IB.lg
      · cases hy
  have X1 : K.In h₁ := M.kin.keeps hk₁
  have self_ : (fun y => ([("self", Value.ref x), (g, v)] : List (Str × Value)).reverse.lookup y) "self" = some (.ref x) := by
    show (match ("self" : Str) == g with | true => some v | false => ([(("self" : Str), Value.ref x)] : List (Str × Value)).lookup ("self" : Str)) = some (.ref x)
    rw [beq_eq_false_iff_ne.mpr (Ne.symm IB.gs)] <;> rfl
  have g_ : (fun y => ([("self", Value.ref x), (g, v)] : List (Str × Value)).reverse.lookup y) g = some v := by
    show (match g == g with | true => some v | false => _) = some v
    rw [beq_self_eq_true] <;> rfl
  refine ks_wpAt_execs_cons (ks_wpAt_Expr_any (ks_wpAt_MethodCall ?_ (call_eq IB.ln rfl)) (by show interactive _ = false; unfold interactive; simp [callEnv, newEnv, Env.blockKind, IB.kd]))
  refine ks_wpAt_super_base (f := fI) (cc := cda) IB.lu IB.lc (by decide) rfl (X1 _ _ hf) rfl rfl rfl (X1 _ _ hcode) rfl hvs (by rw [hfile]; exact beq_self_eq_true _) htop ?_
  refine ks_loadName_global IB.kd IB.lu (Calls.loadGlobal_builtin (M.glob.keeps hk₁) hs (hbn.keeps hk₁) ((hbb _ (by decide)).trans (by first | boot_by_name | rfl | kernel_rfl)) ⟨rfl, ?_⟩)
  refine wpAny_loadName_free IB.kd IB.lc rfl ⟨_, X1 _ _ hcell, rfl⟩ ?_
  refine wpAny_loadName_local IB.kd IB.ls hns self_ ?_
  refine ks_wpAny_isType_cls (X1 _ _ hC) rfl ⟨rfl, ?_⟩
  refine ks_wpAny_call_super (X1 _ _ hC) rfl (hk₁ _ _ hx) rfl (fun c e => nomatch e) (looks_mroIn X1 hsub) (fun h2 hso k2 => ?_)
  have X2 : K.In h2 := X1.keeps k2
  have I2 : InstAt h2 x (PySem.HandSPX.excO C t0) C none := ⟨k2 _ _ (hk₁ _ _ hx), rfl, rfl, trivial⟩
  refine kxs_getMethod KF hso (looks_opaque X2 O.opq) (l₀ := cd.mro) ((looks_clsIn X2 hcd).andThen .now) rfl X2 hsup (I2.type.andThen (looks_subIn X2 O.exB)) (ks_ne X2 I2 hcd) (by decide) ?_
  refine kxs_callWith (i := initId) (x := x) rfl (Calls.evalArgs_plain (x := eval (.Constant (.str msg) j p3) _) (rest := []) (Calls.spliced_cons (wpAny_Constant_str (k := j) (pos := p3) (Calls.spliced_nil ⟨?_, ?_⟩))))
  · exact Heap.get?_push_size _ rfl
  have k3 : ∀ b o, h2.get? b = some o → (h2.push (kxs_mw initId x)).get? b = some o := fun b o e => Heap.get?_push_of_some _ e
  refine call_mw FB O (X2.keeps k3) (k3 _ _ I2.at_) (Heap.get?_push_size _ rfl) (by show 1 ≤ sizeLine; rw [sizeLine_eq]; decide) fun h4 t1 k4 e4 => ?_
  have kk : ∀ b o, b ≠ x → h₁.get? b = some o → h4.get? b = some o := fun b o n e => k4 b o n (k3 _ _ (k2 _ _ e))
  have X4 : K.In h4 := fun b o e => kk b o (fun z => by
    rw [z, nK] at e
    cases e) (X1 b o e)
  have ns4 := Ns.at hns fun o e => kk _ o xL e
  refine ks_wpAt_execs_cons (ks_wpAt_Assign_Attr (wpAt_of_wpAny (wpAny_Name (wpAny_loadName_local IB.kd IB.lg ns4 g_ (wpAny_Name (wpAny_loadName_local IB.kd IB.ls ns4 self_ ?_) (by decide))) IB.gd)))
  refine set_plain (od := none) X4 ⟨e4, rfl, rfl, trivial⟩ O.sa (osa_own SF O hb X4 e4 fun h5 tk5 dx k5 n5 d5 e5 ns5 => ?_)
  refine wpAt_of_wpAny (wpAny_execs_nil (h h5 tk5 dx t1 (fun b o n e => k5 b o n (kk b o n (hk₁ _ _ e))) ?_ d5 e5 ns5))
  obtain ⟨oL, _, _, eL, _⟩ := ns4
  exact Nat.le_of_lt (Nat.lt_of_lt_of_le (Heap.lt_size eL) n5)
end
section
variable {X : Cx} {C fI : Addr} {B newId initId : String} {bmB : List Value} {f file : Str}
variable {q g msg : Str} {an1 an2 : Option Expr} {j : Nat} {q1 q2 p0 p1 p2 p3 p4 p5 p6 p7 p8 p9 : Pos} {scope : Scope} {cc cda : Addr}
/-- C(e) -/
theorem pmk_ownI {k : Nat} {x : Str} {e : Expr} {te : TE} {p pos : Pos} (KF : KxsFacts B initId) (FB : ExcBaseFacts B newId initId bmB) (SF : StoreFacts B bmB "object.__setattr__" "object") (hb : ∀ c r, bmB ≠ .ref c :: r) (O : OwnI X.K C fI B newId initId bmB f)
    (IB : InitB X.K file C fI f q g msg an1 an2 j q1 q2 p0 p1 p2 p3 p4 p5 p6 p7 p8 p9 scope cc cda) (hfile : X.prog.main.file = file) (htop : (X.prog.main.scope.names.lookup ("super" : Str)).isSome = false) (hs : X.mg "super" = none) (hr : Room (k + 1) X.A) (hg : Gl X x) (hm : X.mg x = some (.ref C)) (he : PE X e te)
    (hdb : (x == ("__debug__" : Str)) = false := by decide) (hse : starEach (e :: []) X.env = (false, eval e X.env) :: starEach [] X.env := by rfl) :
    PMk X (.Call (.Name x p) [e] [] pos) (fun σ H Q => te σ H fun y0 H1 => ∃ y, [y0] = [y] ∧ ∀ d, H1 d = none → Q (.ref C) (some d) (upd H1 d (.xd [(f, y)]))) := by
  intro pins s σ H Q I h
  have ha : PA X [e] (tCons te tNil) := pa_cons he pa_nil hse
  obtain ⟨nm, qn, N, bs, sn, sub, ab, col, dd, k0, k1, k2, k3, k5, hC⟩ := O.cls
  refine wpAny_Call_Name_kw (ld_glob I hg hm ?_ hdb)
  refine callWith_K (h₀ := X.base) I.ok.mod.kin O.kC (thn (ha.run pos pins s σ H (fun vs H1 => ∃ y, vs = [y] ∧ ∀ d, H1 d = none → Q (.ref C) (some d) (upd H1 d (.xd [(f, y)]))) I h) fun us s1 hh => ?_) hse (by rfl)
  obtain ⟨vs, H1, I1, r1, y, rfl, hq⟩ := hh
  refine ⟨I1.kIn, ?_⟩
  cases r1 with
  | @cons _ u _ us' ru rn =>
  cases rn
  show wpAny _ _ (call (.ref C) [u]) _ _ _
  obtain ⟨hp, gn, dr, tk, os⟩ := s1
  have hsz : hp.objs.size ≤ hp.objs.size + 1 := Nat.le_succ _
  have hn : H1 (hp.objs.size + 1) = none := I1.hok.fresh hsz
  have kk : ∀ b o, hp.get? b = some o → ((hp.push (kdv_tup [u])).push (PySem.HandSPX.excO C hp.objs.size)).get? b = some o := fun b o e => Heap.get?_push_of_some _ (Heap.get?_push_of_some _ e)
  have hget : ((hp.push (kdv_tup [u])).push (PySem.HandSPX.excO C hp.objs.size)).get? (hp.objs.size + 1) = some (PySem.HandSPX.excO C hp.objs.size) := by heap_get
  have nK : X.K.lookup (hp.objs.size + 1) = none := by
    cases z : X.K.lookup (hp.objs.size + 1) with
    | none => rfl
    | some o => exact absurd (Heap.lt_size (I1.kIn _ _ z)) (Nat.not_lt_of_le hsz)
  have M : L2.Mod X.K X.mg ((hp.push (kdv_tup [u])).push (PySem.HandSPX.excO C hp.objs.size)) := by
    have m := I1.ok.mod
    have k : ∀ b o, X.base.get? b = some o → ((hp.push (kdv_tup [u])).push (PySem.HandSPX.excO C hp.objs.size)).get? b = some o := fun b o e => kk b o (I1.bk b o e)
    obtain ⟨mb, h1, h2⟩ := m.blt
    exact ⟨m.kin.keeps k, m.glob.keeps k, ⟨mb, h1.keeps k, h2⟩, m.nolimit.keeps k⟩
  refine wpAny_call (PySem.HandSPX.call_own FB (fun Y => rfl) (I1.kIn _ _ hC) (looks_findIn I1.kIn O.ini) (fun self => bind_fn I1.kIn self O.tyI) (by show 1 ≤ sizeLine; rw [sizeLine_eq]; decide)
    (init_run KF FB SF hb O IB hfile htop M hs (hr.make C [u] []).depth hget nK fun h' tk' dx t1 k n d ex nsx => ⟨rfl, ?_⟩))
  obtain ⟨G, g1', g2'⟩ := restrict h' fun b => decide (b ≠ hp.objs.size + 1)
  have gk : ∀ b, b ≠ hp.objs.size + 1 → G.get? b = h'.get? b := fun b hb => g1' b (decide_eq_true hb)
  have ge : G.get? (hp.objs.size + 1) = none := g2' _ (by simp)
  have old : ∀ b o, hp.get? b = some o → b ≠ hp.objs.size + 1 := fun b o e => Nat.ne_of_lt (Nat.lt_of_lt_of_le (Heap.lt_size e) hsz)
  have szx : hp.objs.size ≤ dx := Nat.le_trans (by rw [Heap.size_push, Heap.size_push]; omega) n
  have J : Inv X pins σ (upd H1 dx (.xd [(f, y)])) ⟨G, gn, dr, tk', os⟩ :=
    I1.laid (s := ⟨hp, gn, dr, tk, os⟩) (t' := tk') (a := dx) (o := .xd [(f, y)]) (h' := G) (fun b o e => by rw [gk b (old b o e)]; exact k b o (old b o e) (kk b o e)) szx
      ⟨_, nsx.at fun o e => (gk dx d).trans e, relO_put (fs := []) ru fun g => True.intro⟩
  refine ⟨hp.objs.size + 1, _, _, ⟨G, gn, dr, tk', os⟩, _, .ref C, some dx, rfl, J, fun b o e => ?_, ge, ex, ⟨rfl, rfl⟩, rfl, rfl, ?_, rfl, I1.bare, raises_own O.exC O.tyC, hq dx (I1.hok.fresh szx)⟩
  · by_cases hbe : b = hp.objs.size + 1
    · rw [hbe, ge] at e
      cases e
    · exact (gk b hbe).symm.trans e
  · rw [upd_ne (Ne.symm d)]
    exact hn
end
end Mi
end
section
set_option maxRecDepth 100000
set_option maxHeartbeats 4000000
/-! MiRaise: raise C('..'), raise C(e) -/
namespace Mi
open PySem PySem.Spec PyProof.Rows L2
/-- raise of a class without fields -/
def dRaise0 (n : Nat) : DS := fun _ env st => .exc ⟨n, none⟩ env st
/-- raise of a class that keeps one field -/
def dRaise1 (n : Nat) (f : Str) (a : DE) : DS := fun th env st => (a th env st).s env fun v st1 => .exc ⟨n, some (f, v)⟩ env st1
section
variable {X : Cx} {J : Jx} {C fI : Addr} {B newId initId : String} {bmB : List Value} {f file : Str} {n : Nat}
theorem ys_raise0 {x m : Str} {j : Nat} {p p2 pos rp : Pos} (J2 : XK2 X J) (F : ExcBaseFacts B newId initId bmB) (q : PySem.W.excIn X.K C bmB newId = true) (gC : X.mg x = some (.ref C)) (kC : PySem.W.keepIn X.K (.ref C) = true) (r : Raises X (.ref C)) (hg : Gl X x) (hn : J.W.ca n = some (.ref C))
    (hdb : (x == ("__debug__" : Str)) = false := by decide) : PS X (.Raise (some (.Call (.Name x p) [.Constant (.str m) j p2] [] pos)) none rp) (rdS J (dRaise0 n)) :=
  PS.imp (ps_raise J2.cm J2.tk (pmk_own F q gC kC r hg hdb)) fun D σ H h => by
    obtain ⟨ρ, th, env, st, S, g⟩ := h
    exact g H ρ σ _ _ (.refl S.rs) S.env ⟨hn, rfl⟩
theorem ys_raise1 {q g msg : Str} {an1 an2 : Option Expr} {j : Nat} {q1 q2 p0 p1 p2 p3 p4 p5 p6 p7 p8 p9 : Pos} {scope : Scope} {cc cda : Addr} {k : Nat} {x : Str} {e : Expr} {de : DE} {p pos rp : Pos} (J2 : XK2 X J) (KF : PySem.W.KxsFacts B initId) (FB : ExcBaseFacts B newId initId bmB) (SF : StoreFacts B bmB "object.__setattr__" "object") (hb : ∀ c r, bmB ≠ .ref c :: r)
    (O : OwnI X.K C fI B newId initId bmB f) (IB : InitB X.K file C fI f q g msg an1 an2 j q1 q2 p0 p1 p2 p3 p4 p5 p6 p7 p8 p9 scope cc cda) (hfile : X.prog.main.file = file) (htop : (X.prog.main.scope.names.lookup ("super" : Str)).isSome = false) (hs : X.mg "super" = none) (hr : Room (k + 1) X.A) (hg : Gl X x) (hm : X.mg x = some (.ref C)) (hn : J.W.ca n = some (.ref C))
    (he : PE X e (rdE J de)) (hdb : (x == ("__debug__" : Str)) = false := by decide) (hse : starEach (e :: []) X.env = (false, eval e X.env) :: starEach [] X.env := by rfl) :
    PS X (.Raise (some (.Call (.Name x p) [e] [] pos)) none rp) (rdS J (dRaise1 n f de)) :=
  PS.imp (ps_raise J2.cm J2.tk (pmk_ownI KF FB SF hb O IB hfile htop hs hr hg hm he hdb hse)) fun D σ H h =>
    rs_bind J2.st h fun ρ th env st v y0 H1 S rv g => ⟨y0, rfl, fun d hd => g (upd H1 d (.xd [(f, y0)])) ρ σ _ _ (.aside S.rs hd) (S.env.mono (.new hd) (.refl _ _) (Nat.le_refl _)) ⟨hn, d, y0, rfl, upd_same, rv.mono (.new hd) (.refl _ _) (Nat.le_refl _)⟩⟩
end
end Mi
end
section
set_option maxRecDepth 100000
set_option maxHeartbeats 4000000
/-! MiLam: a lambda without parameters, handed to a def that calls it in a try: no repr is under way -/
namespace Mi
open PySem PySem.Spec PyProof.Rows L2 LamX
/-- the lambda's object -/
abbrev lamO (X : Cx) (params : Arguments) (body : Expr) (scope : Scope) (pm : Value) (c' : Addr) (ctv : Value) : Obj := PySem.W.kla_obj "<lambda>" (X.env.qual ++ "<lambda>") params body scope (cloFrom X.env.cells scope.names []) pm c' ctv
/-- a lambda that stands ready, in the state of its maker -/
structure Ready (X : Cx) (pins : List (Addr × Obj)) (σ : L2.St) (H : Hp) (s : Shared) (params : Arguments) (body : Expr) (scope : Scope) (f c' : Addr) (pm ctv : Value) : Prop where
  inv : Inv X pins σ H s
  sco : LamS X.env.scope scope
  obj : s.heap.get? f = some (lamO X params body scope pm c' ctv)
  new : H f = none
  fr : f ∉ frs X.stack
  gd : X.A.guards = some []
  bind : bindArgs (PySem.W.kla_fn "<lambda>" (X.env.qual ++ "<lambda>") params body scope (cloFrom X.env.cells scope.names []) pm (.ref c') ctv) ⟨[], []⟩ = pure []
section
variable {X : Cx} {pins : List (Addr × Obj)} {σ : L2.St} {H : Hp} {s : Shared} {params : Arguments} {body : Expr} {scope : Scope} {f c' : Addr} {pm ctv : Value}
/-- the def's context that got it -/
abbrev metCx (CXg : CXT) (X : Cx) (Ng : List Str) (qg : Str) (sg : Scope) (g : Addr) (cdg : Value) (s : Shared) (H : Hp) (Eg : XK) : Cx := cxOf CXg X.prog X.w X.K X.mg X.base Ng qg sg g cdg X.A X.stack s H Eg
/-- its code is run out of that context -/
theorem lam_code (R : Ready X pins σ H s params body scope f c' pm ctv) {CXg : CXT} {Eg : XK} {Ng : List Str} {qg : Str} {sg : Scope} {g : Addr} {cdg : Value} {k : Nat} {pn pinsZ : List (Addr × Obj)} {xe : Value → Shared → Prop} {E : XK} {tb : TE} {σZ : L2.St} {HZ : Hp} {sZ : Shared} {Q : VK}
    (hr : Room (k + 1) (X.A.deeper (envOfC qg sg s.heap.objs.size g cdg)))
    (hb : ∀ (A : Around) (outer : List PySem.Env) (s : Shared) (H : Hp), Room k (A.deeper (lamEnv X scope s.heap.objs.size f c')) → A.guards = some [] → PE (lamCx X A outer s H E scope f c') body tb)
    (IZ : Inv ((metCx CXg X Ng qg sg g cdg s H Eg).tr pn xe) pinsZ σZ HZ sZ) (hc : HZ c' = some (CodeO c' (X.env.qual ++ "<lambda>"))) (ht : tb σ HZ Q) :
    sZ.heap.get? f = some (lamO X params body scope pm c' ctv) ∧ codeAny (model X.prog X.w) (X.A.deeper (envOfC qg sg s.heap.objs.size g cdg)) (.call (.ref f) ⟨[], []⟩) (CR (L2.CX X.prog X.w) (envOfC qg sg s.heap.objs.size g cdg :: X.stack) X.prog X.w HZ sZ Q E) sZ := by
  have o1 : sZ.heap.get? f = some (lamO X params body scope pm c' ctv) := IZ.base.keep f _ R.obj R.new R.fr (fun z => nomatch (show f ∈ ([] : List Addr) from z))
  have un : Un (frs X.stack) [] H HZ s.heap sZ.heap := IZ.base
  obtain ⟨⟨oc, vs, t, h1, h2, h3⟩, _, _⟩ := IZ.hok c' _ hc
  refine ⟨o1, PySem.W.kla_callFunE hr.depth o1 rfl R.sco.co R.sco.gen rfl ⟨c', oc, vs, t, rfl, h1, h2, h3⟩ ?_⟩
  rw [R.bind]
  refine wpAny_pure (wpAny_newFunctionEnv (fun y hy => (R.sco.own y hy).2) (fun y hy => absurd hy (by simp)) (fun h' hn hk => ⟨IZ.nolimit.fresh _ hk, ?_⟩) R.sco.kind)
  have keep : ∀ b o, sZ.heap.get? b = some o → h'.get? b = some o := fun b o e => hk.extBut b o (Nat.ne_of_lt (Heap.lt_size e)) (Heap.get?_push_of_some _ e)
  have J := lam_start2 (E := E) (f := f) (c' := c') (tk := sZ.toks + ([] : List (Str × Value)).length) R.inv R.sco IZ.env0 hr.hd un hn keep
  exact PySem.W.kla_codeExpr (wpAny_mono ((hb _ _ sZ HZ (hr.deeper _) R.gd).run [] _ _ HZ Q J ht) (fun v s' ⟨w, H', J', rv, q⟩ => ⟨w, H', J'.os, J'.bare, J'.base, J'.hok, rv, q⟩) fun _ _ q => q)
/-- a(): the call of the lambda -/
theorem pe_actG (R : Ready X pins σ H s params body scope f c' pm ctv) {CXg : CXT} {Eg : XK} {Ng : List Str} {qg : Str} {sg : Scope} {g : Addr} {cdg : Value} {k i : Nat} {a : Str} {pn : List (Addr × Obj)} {xe : Value → Shared → Prop} {E : L2.St → XK} {tb : XK → TE} {p1 p2 : Pos}
    (hx : ∀ σ, PassesAt (L2.CX X.prog X.w) ((metCx CXg X Ng qg sg g cdg s H Eg).tr pn xe) σ (E σ)) (hr : Room (k + 1) (X.A.deeper (envOfC qg sg s.heap.objs.size g cdg)))
    (hb : ∀ (E : XK) (A : Around) (outer : List PySem.Env) (s : Shared) (H : Hp), Room k (A.deeper (lamEnv X scope s.heap.objs.size f c')) → A.guards = some [] → PE (lamCx X A outer s H E scope f c') body (tb E))
    (hN : Ng[i]? = some a) (hv : Vis sg a) (hd : (a == ("__debug__" : Str)) = false) (hcd : (a == ("__classdict__" : Str)) = false) :
    PE ((metCx CXg X Ng qg sg g cdg s H Eg).tr pn xe) (.Call (.Name a p1) [] [] p2) (fun σZ HZ Q => σZ[i]? = some (some (.ref f)) ∧ HZ c' = some (CodeO c' (X.env.qual ++ "<lambda>")) ∧ tb (E σZ) σ HZ Q) := ⟨fun pinsZ sZ σZ HZ Q IZ h => by
  obtain ⟨h1, h2, h3⟩ := h
  refine wpAny_Call_Name_kw (thn ((pe_var (pos := p1) (i := i) hN hv hd hcd).run pinsZ sZ σZ HZ (fun v K => v = .ref f ∧ K = HZ) IZ ⟨.ref f, h1, rfl, rfl⟩) fun u s1 hu => ?_)
  obtain ⟨v, H1, I1, r1, e1, e2⟩ := hu
  subst e1
  rw [e2] at I1
  obtain rfl : u = Value.ref f := r1
  obtain ⟨o1, rc⟩ := lam_code R hr (hb (E σZ)) I1 h2 h3
  refine PySem.W.callWith_F0 ⟨_, _, _, _, o1⟩ (wpAny_call (codeAny_mono rc fun r s' hq => ?_))
  match r, hq with
  | .error e, hq => exact hx σZ pinsZ HZ s1 e s' I1 hq
  | .ok (.ret u), hq => exact I1.after hq⟩
end
/-! ### what the def makes of the lambda -/
abbrev Hd := Ex → Sto → Res PV
def pickH (sub : Nat → Nat → Bool) : List (Nat × Hd) → Hd
  | [], _, _ => .bad
  | (m, h) :: r, e, st => match sub e.cls m with
    | true => h e st
    | false => pickH sub r e st
/-- nothing comes out of a clause -/
def noX : Res PV → Res PV
  | .ok v st => .ok v st
  | _ => .bad
theorem noX_ok {W : Wd} {E E' : XK} {H : Hp} {ρ : Nat → Addr} {n : Nat} {Q : VK} {r : Res PV} (h : gE W E (noX r) H ρ n Q) : gE W E' r H ρ n Q := by
  cases r with
  | ok v st => exact h
  | exc e st => exact h.elim
  | bad => exact h.elim
theorem noX_re {W : Wd} {E E' : XK} {H : Hp} {ρ : Nat → Addr} {n : Nat} {Q : VK} {r : Res PV} (h : gE W E (noX r) H ρ n Q) : gE W E' (noX r) H ρ n Q := by
  cases r with
  | ok v st => exact h
  | exc e st => exact h.elim
  | bad => exact h.elim
def metR (sub : Nat → Nat → Bool) (hs : List (Nat × Hd)) (aft : PV) : Res PV → Res PV
  | .ok _ st => .ok aft st
  | .exc e st => noX (pickH sub hs e st)
  | .bad => .bad
/-- met(lambda: ..) -/
def dLam (sub : Nat → Nat → Bool) (hs : List (Nat × Hd)) (aft : PV) (d : DE) : DE := fun th env st => metR sub hs aft (d th env st)
abbrev noE : XK := fun _ _ _ => False
/-- the clauses do what the handlers say -/
def ClsOk (K : PySem.W.Frag) (W : Wd) (σ0 : L2.St) (sub : Nat → Nat → Bool) : List (Nat × Hd) → List Cl → Prop
  | [], [] => True
  | (m, h) :: r, p :: l => (∀ n c, W.ca n = some c → PySem.W.exmOne K c p.1 = some (sub n m)) ∧
    (∀ (a : Addr) (cls : Value) (d : Option Addr) (D : Ends) (H : Hp) (ρ : Nat → Addr) (st : Sto) (e : Ex), sub e.cls m = true → RSt W H ρ st → RX W H ρ st.length e cls d → H a = none → gE W noE (h e st) H ρ st.length D.rt → p.2.2 a cls d (endsOf D p.2.1) (slotOf a σ0 p.2.1) H) ∧ ClsOk K W σ0 sub r l
  | _, _ => False
theorem wMix_of {K : PySem.W.Frag} {W : Wd} {σ0 : L2.St} {sub : Nat → Nat → Bool} {D : Ends} {Wout : WX} {H : Hp} {ρ : Nat → Addr} {st : Sto} {e : Ex} {c : Value} {d : Option Addr} (r : RSt W H ρ st) (x : RX W H ρ st.length e c d) :
    ∀ {hs : List (Nat × Hd)} {l : List Cl}, ClsOk K W σ0 sub hs l → gE W noE (pickH sub hs e st) H ρ st.length D.rt → wMix K Wout D l c d σ0 H
  | [], [], _, g => g.elim
  | (m, h) :: hs, p :: l, ⟨h1, h2, h3⟩, g => by
    refine ⟨sub e.cls m, h1 _ _ x.1, fun b a ha => h2 a c d D H ρ st e b r x ha ?_, fun b => wMix_of r x h3 ?_⟩
    · unfold pickH at g
      rw [b] at g
      exact g
    · unfold pickH at g
      rw [b] at g
      exact g
  | [], _ :: _, z, _ => z.elim
  | _ :: _, [], z, _ => z.elim
/-- the def at g, with one parameter that it calls: what it promises -/
structure MetG (P : Program) (w : World) (K : PySem.W.Frag) (mg : Str → Option Value) (base : Heap) (W : Wd) (k : Nat) (x : Str) (sub : Nat → Nat → Bool) (hs : List (Nat × Hd)) (aft : PV) : Prop where
  ex : ∃ (g : Addr) (fd : FuncData) (N : List Str) (q : Str) (sg : Scope) (cdg : Value) (a : Str), mg x = some (.ref g) ∧ PySem.W.keepIn K (.ref g) = true ∧ Binds K fd [a] [] ∧ N[0]? = some a ∧ Vis sg a ∧ (a == ("__debug__" : Str)) = false ∧ (a == ("__classdict__" : Str)) = false ∧
    ∀ (A : Around) (outer : List PySem.Env) (s : Shared) (H : Hp) (f : Addr) (args : Args) (Q : VK) (ρ : Nat → Addr) (st : Sto) (r : Res PV), Room (k + 1) A → A.guards = some [] → Env0 P w K mg base A outer s H → BindsTo s fd args [(a, .ref f)] → RSt W H ρ st →
      (Room k (A.deeper (envOfC q sg s.heap.objs.size g cdg)) → ∀ (pn : List (Addr × Obj)) (xe : Value → Shared → Prop) (E : L2.St → XK) (p1 p2 : Pos), (∀ σ, PassesAt (L2.CX P w) ((cxOf C8.CX0 P w K mg base N q sg g cdg A outer s H C8.E0).tr pn xe) σ (E σ)) →
        PE ((cxOf C8.CX0 P w K mg base N q sg g cdg A outer s H C8.E0).tr pn xe) (.Call (.Name a p1) [] [] p2) fun σZ HZ Q => σZ[0]? = some (some (.ref f)) ∧ HZ = H ∧ gE W (E σZ) r H ρ st.length Q) →
      gE W noE (metR sub hs aft r) H ρ st.length Q → codeAny (model P w) A (.call (.ref g) args) (CR C8.CX0 outer P w H s Q C8.E0) s
/-- try: a() / except ..: .. / return aft -/
theorem met_ok {P : Program} {w : World} {K : PySem.W.Frag} {mg : Str → Option Value} {base : Heap} {W : Wd} {k : Nat} {x a : Str} {sub : Nat → Nat → Bool} {hs : List (Nat × Hd)} {aft : List Nat} {params : Arguments} {scope : Scope} {N : List Str} {g : Addr} {fd : FuncData} {h₀ : ExceptHandler} {hds : List ExceptHandler} {p1 p2 p3 p4 p5 p6 : Pos} {z : Str} {j : Nat}
    (hz : z = toS aft) (F : FunD K x x params [.Try [.Expr (.Call (.Name a p1) [] [] p2) p3] (h₀ :: hds) [] [] p4, .Return (some (.Constant (.str z) j p5)) p6] scope [] [] g fd) (S : FnScope N [a] scope) (hm : mg x = some (.ref g)) (hbi : Binds K fd [a] []) (hN : N[0]? = some a) (hv : Vis scope a)
    (hd : (a == ("__debug__" : Str)) = false) (hcd : (a == ("__classdict__" : Str)) = false)
    (hc : ∀ (cdv : Value) (A : Around) (outer : List PySem.Env) (s : Shared) (H : Hp) (f : Addr), Room k (A.deeper (envOfC x scope s.heap.objs.size g cdv)) → A.guards = some [] → ∃ l, MixOk (cxOf C8.CX0 P w K mg base N x scope g cdv A outer s H C8.E0) (h₀ :: hds) l ∧ ClsOk K W (L2.start N [.ref f]) sub hs l) :
    MetG P w K mg base W k x sub hs (.str aft) := by
  obtain ⟨oc, od, dV, kV, doc, pm, an, cdv, ct, osl, rfl, lk, hcg, _, _⟩ := F.ex
  refine ⟨g, _, N, x, scope, cdv, a, hm, F.kp, hbi, hN, hv, hd, hcd, fun A outer s H f args Q ρ st r hr hg e0 hb R act gq => ?_⟩
  refine LamX.run_ofS (N := N) (ps := [a]) (us := [.ref f]) (vs := [.ref f]) lk hcg S hr e0 hb (.cons rfl .nil) rfl fun hr' => ?_
  obtain ⟨l, mx, ck⟩ := hc cdv A outer s H f hr' hg
  refine ⟨_, pss_cons (ps_try_mix (X := cxOf C8.CX0 P w K mg base N x scope g cdv A outer s H C8.E0) (Wout := fun _ _ _ _ => False) rfl rfl LamX.takes0 (fun Wx pn xe tk _ => pss_one (ps_expr (act hr' pn xe (fun σ => WE Wx σ) p1 p2 (passAt tk)))) mx) (pss_one (ps_ret pe_str)), ?_⟩
  have st0 : (L2.start N [V.ref f])[0]? = some (some (V.ref f)) := rfl
  refine ⟨st0, rfl, ?_⟩
  cases r with
  | ok v st1 => exact fun H' ρ' x' s1 _ => gq H' ρ' (.str z) s1 (by rw [hz]; exact rfl)
  | exc e st1 => exact fun H' ρ' c d s1 rx => wMix_of s1.rs rx ck (gR.pre s1 (noX_ok gq))
  | bad => exact gq.elim
end Mi
end
section
set_option maxRecDepth 100000
set_option maxHeartbeats 4000000
/-! MiLam2: met(lambda: ..) in a def's body; the clauses -/
namespace Mi
open PySem PySem.Spec PyProof.Rows L2 LamX
section
variable {W : Wd} {H H' : Hp} {ρ : Nat → Addr} {st : Sto}
/-- only code tables grew -/
theorem Stp.extN (r : RSt W H ρ st) (e : ExtN H H') (t : Tabs W.T H') : Stp W H ρ st.length H' ρ st := by
  have x : HX H H' := ⟨fun b xs h => e b _ h (fun _ z => nomatch z), fun b o u h => e b _ h (fun _ z => nomatch z)⟩
  refine ⟨⟨r.inj, fun i o h => ?_, t⟩, x, .refl _ _, Nat.le_refl _⟩
  have q := r.obj i o h
  cases o with
  | lst xs =>
    obtain ⟨vs, h1, h2⟩ := q
    exact ⟨vs, e _ _ h1 (fun _ z => nomatch z), h2.mono x (.refl _ _) (Nat.le_refl _)⟩
  | dct xs =>
    obtain ⟨vs, h1, h2⟩ := q
    exact ⟨vs, e _ _ h1 (fun _ z => nomatch z), RKs.mono x (.refl _ _) (Nat.le_refl _) _ _ h2⟩
  | fz xs =>
    obtain ⟨vs, h1, h2⟩ := q
    exact ⟨vs, h1.mono x, h2.mono x (.refl _ _) (Nat.le_refl _)⟩
  | dlk xs =>
    obtain ⟨vs, o, h1, h2⟩ := q
    exact ⟨vs, o, x.frz _ _ _ h1, RKs.mono x (.refl _ _) (Nat.le_refl _) _ _ h2⟩
end
/-- where the lambda's body stands -/
abbrev lamJ (J : Jx) (E : XK) : Jx := ⟨J.W, fun c d _ H => E c d H, J.tr⟩
section
variable {X : Cx} {J : Jx}
theorem lam_ok (J2 : XK2 X J) {A : Around} {outer : List PySem.Env} {s : Shared} {H : Hp} {E : XK} {scope : Scope} {f c' : Addr} (hg : A.guards = some []) : XK2 (lamCx X A outer s H E scope f c') (lamJ J E) :=
  ⟨⟨J2.K, J2.st, takes_of rfl rfl rfl rfl⟩, rfl, J2.nd, passes_of rfl, hg⟩
theorem xe_lam {k : Nat} {x : Str} {c P : Addr} {sub : Nat → Nat → Bool} {hs : List (Nat × Hd)} {aft : PV} {params : Arguments} {body : Expr} {scope : Scope} {de : DE} {p lpos pos : Pos} (J2 : XK2 X J) (M : MetG X.prog X.w X.K X.mg X.base J.W (k + 1) x sub hs aft) (hr : Room (k + 2) X.A) (hg : Gl X x)
    (TB : TabB X.base X.mg c P) (hcode : X.env.code = .ref c) (hmT : (P, X.env.qual ++ "<lambda>") ∈ J.W.T) (hu : ∀ p ∈ J.W.T, p.1 = P → p.2 = X.env.qual ++ "<lambda>") (L : LamS X.env.scope scope) (hdef : defaultsOf params X.env = ([], []))
    (hbind : ∀ (q : Str) (cl : List (Str × Addr)) (pm cv ctv : Value), bindArgs (PySem.W.kla_fn "<lambda>" q params body scope cl pm cv ctv) ⟨[], []⟩ = pure [])
    (hbody : ∀ (A : Around) (outer : List PySem.Env) (s : Shared) (H : Hp) (E : XK) (f c' : Addr), Room k (A.deeper (lamEnv X scope s.heap.objs.size f c')) → XK2 (lamCx X A outer s H E scope f c') (lamJ J E) → PE (lamCx X A outer s H E scope f c') body (rdE (lamJ J E) de))
    (hdb : (x == ("__debug__" : Str)) = false := by decide) : PE X (.Call (.Name x p) [.Lambda params body scope lpos] [] pos) (rdE J (dLam sub hs aft de)) := by
  obtain ⟨g, fd, N, q, sg, cdg, a, hm, hk, hb, hN, hv, hd, hcd, run⟩ := M.ex
  refine ⟨fun pins s σ H Q I h => ?_⟩
  obtain ⟨ρ, th, env, st, S, gq⟩ := h
  refine wpAny_Call_Name_kw (ld_glob I hg hm ?_ hdb)
  refine PySem.W.callWith_K (h₀ := X.base) I.ok.mod.kin hk ?_ (by rfl) (by rfl)
  show wpAny _ _ (spliced ((false, eval (.Lambda params body scope lpos) X.env) :: backTo pos (starEach [] X.env))) _ _ s
  refine Calls.spliced_cons (lam_make2 I TB hcode hmT hu S.rs.tab hdef (L.has I.ok) fun f c' pm ctv H1 s' I1 eN T1 hf hfn hfr hco => ?_)
  refine Calls.spliced_nil ⟨I1.kIn, ?_⟩
  have s1 := Stp.extN S.rs eN T1
  have S1 := S.step J2.st s1
  have g1 := gR.pre s1 gq
  have R : Ready X pins σ H1 s' params body scope f c' pm ctv := ⟨I1, L, hf, hfn, hfr, J2.gd, hbind _ _ _ _ _⟩
  have hbi := hb s' [.ref f] I1.kIn rfl
  have rc : codeAny (model X.prog X.w) X.A (.call (.ref g) ⟨[.ref f], []⟩) (CR C8.CX0 X.stack X.prog X.w H1 s' Q C8.E0) s' := by
    refine run X.A X.stack s' H1 f _ Q ρ st (de th env st) hr J2.gd I1.env0 hbi S1.rs (fun hr' pn xe E p1 p2 hx => ?_) ?_
    · refine PE.imp (pe_actG R hx hr' (tb := fun E => rdE (lamJ J E) de) (fun E A outer s2 H2 hr2 hg2 => hbody A outer s2 H2 E f c' hr2 (lam_ok J2 hg2)) hN hv hd hcd) fun σZ HZ QZ hZ => ?_
      obtain ⟨h1, h2, h3⟩ := hZ
      subst h2
      exact ⟨h1, hco, ρ, th, env, st, ⟨S1.rs, S1.env, S1.th⟩, h3⟩
    · unfold dLam at g1
      cases e : de th env st with
      | ok v st1 =>
        rw [e] at g1
        exact g1
      | exc ex st1 =>
        rw [e] at g1
        exact noX_re g1
      | bad =>
        rw [e] at g1
        exact g1.elim
  refine wpAny_call (codeAny_mono rc fun r s2 hq => ?_)
  cases r with
  | error e => exact (show False from hq).elim
  | ok fl =>
    cases fl with
    | ret u => exact I1.after hq
    | next => exact False.elim hq
    | brk => exact False.elim hq
    | cont => exact False.elim hq
end
end Mi
end
section
set_option maxRecDepth 100000
set_option maxHeartbeats 4000000
/-! MiCls: except clauses of the law's def; the facts of own classes as Bools -/
namespace Mi
open PySem PySem.Spec PyProof.Rows L2 LamX
/-! ### which class answers which clause -/
def subT (tab : List (List Bool)) (n m : Nat) : Bool := (tab.getD m []).getD n false
def caT (K : PySem.W.Frag) (xs : List Str) (n : Nat) : Option Value := (xs[n]?).map fun x => .ref (He.ga K x)
def rowB (K : PySem.W.Frag) (xs : List Str) (y : Str) (bs : List Bool) : Bool := decide ((xs.map fun x => PySem.W.exmOne K (.ref (He.ga K x)) (.ref (He.ga K y))) = bs.map some)
def tabB (K : PySem.W.Frag) (xs : List Str) : List Str → List (List Bool) → Bool
  | [], [] => true
  | y :: ys, b :: bs => rowB K xs y b && tabB K xs ys bs
  | _, _ => false
theorem rowB_ok {K : PySem.W.Frag} {xs : List Str} {y : Str} {bs : List Bool} (h : rowB K xs y bs = true) {n : Nat} {c : Value} (hc : caT K xs n = some c) : PySem.W.exmOne K c (.ref (He.ga K y)) = some (bs.getD n false) := by
  have e : (xs.map fun x => PySem.W.exmOne K (.ref (He.ga K x)) (.ref (He.ga K y))) = bs.map some := of_decide_eq_true h
  unfold caT at hc
  cases q : xs[n]? with
  | none =>
    rw [q] at hc
    cases hc
  | some x =>
    rw [q] at hc
    cases hc
    have e2 := congrArg (fun l => l[n]?) e
    simp only [List.getElem?_map, q, Option.map_some] at e2
    cases z : bs[n]? with
    | none =>
      rw [z] at e2
      cases e2
    | some b =>
      rw [z] at e2
      simp only [Option.map_some, Option.some.injEq] at e2
      rw [e2, List.getD_eq_getElem?_getD, z]
      rfl
theorem tabB_ok {K : PySem.W.Frag} {xs : List Str} : ∀ {ys : List Str} {tab : List (List Bool)}, tabB K xs ys tab = true → ∀ {m : Nat} {y : Str}, ys[m]? = some y → ∀ n c, caT K xs n = some c → PySem.W.exmOne K c (.ref (He.ga K y)) = some (subT tab n m)
  | [], [], _, m, y, e, _, _, _ => by simp at e
  | y0 :: ys, b :: bs, h, 0, y, e, n, c, hc => by
    obtain ⟨h1, h2⟩ := He.ba h
    have e : some y0 = some y := e
    cases e
    exact rowB_ok h1 hc
  | y0 :: ys, b :: bs, h, m + 1, y, e, n, c, hc => by
    obtain ⟨h1, h2⟩ := He.ba h
    exact tabB_ok h2 (m := m) (by simpa using e) n c hc
  | [], _ :: _, h, _, _, _, _, _, _ => by cases h
  | _ :: _, [], h, _, _, _, _, _, _ => by cases h
/-! ### clauses -/
def hC (t : List Nat) : Hd := fun _ st => .ok (.str t) st
/-- t + repr(error.f) of class m -/
def hF (m : Nat) (t : List Nat) (f : Str) : Hd := fun e st => match e.fld with
  | some (f', p) => if e.cls = m ∧ f' = f then (fRepr [p] st).bind fun r st1 => match r with
    | .str y => if Nat.ble (t.length + y.length) 16777216 = true then .ok (.str (t ++ y)) st1 else .bad
    | _ => .bad
    else .bad
  | none => .bad
section
variable {Z : Cx} {W : Wd} {σ0 : L2.St} {sub : Nat → Nat → Bool} {hs : List (Nat × Hd)} {hds : List ExceptHandler} {l : List Cl} {C : Addr} {cn : Str} {m : Nat} {t : List Nat} {z : Str}
theorem mx_c {j : Nat} {p p5 p6 q : Pos} (hn : Names Z cn (.ref C)) (hz : z = toS t) (hx : ∀ n c, W.ca n = some c → PySem.W.exmOne Z.K c (.ref C) = some (sub n m)) (r : ∃ l, MixOk Z hds l ∧ ClsOk Z.K W σ0 sub hs l) :
    ∃ l, MixOk Z (.ExceptHandler (some (.Name cn p)) none [.Return (some (.Constant (.str z) j p5)) p6] q :: hds) l ∧ ClsOk Z.K W σ0 sub ((m, hC t) :: hs) l := by
  obtain ⟨l, r1, r2⟩ := r
  refine ⟨(.ref C, none, fun _ _ _ => tRet (tC (.str z))) :: l, .cons hn trivial (fun a o cls d pn _ _ => pss_one (ps_ret pe_str)) r1, hx, fun a cls d D H ρ st e _ rs _ _ g => ?_, r2⟩
  exact g H ρ (.str z) (.refl rs) (by rw [hz]; exact rfl)
theorem mx_f {j i m' : Nat} {en f : Str} {p p1 p2 p3 p4 p5 p6 p7 q : Pos} (hn : Names Z cn (.ref C)) (hz : z = toS t) (hx : ∀ n c, W.ca n = some c → PySem.W.exmOne Z.K c (.ref C) = some (sub n m)) (hK : W.K = Z.K) (hca : W.ca m' = some (.ref C)) (T : XfC Z.K C) (hno : PySem.W.findIn Z.K (.ref C) f = some none)
    (hN : Z.N.Nodup) (hi : Z.N[i]? = some en) (hl : Z.env.kindOf en = some .local) (hil : i < σ0.length) (hd : (en == ("__debug__" : Str)) = false) (hcd : (en == ("__classdict__" : Str)) = false) (hgd : Z.A.guards = some []) (hu : Z.A.units + 66 < cLine) (hgr : Gl Z "repr") (hmr : Z.mg "repr" = none)
    (r : ∃ l, MixOk Z hds l ∧ ClsOk Z.K W σ0 sub hs l) :
    ∃ l, MixOk Z (.ExceptHandler (some (.Name cn p)) (some en) [.Return (some (.BinOp (.Constant (.str z) j p1) .Add (.Call (.Name "repr" p2) [.Attribute (.Name en p3) f p4] [] p5) p6)) p7] q :: hds) l ∧ ClsOk Z.K W σ0 sub ((m, hF m' t f) :: hs) l := by
  obtain ⟨l, r1, r2⟩ := r
  have hv : Vis Z.env.scope en := .inl hl
  have cr : ∀ a pn, CallR (Z.suite a pn) (.builtin "repr") (rReprA Z.K) := fun a pn => call_reprA (X := Z.suite a pn) hgd hu
  refine ⟨(.ref C, some i, fun a cls d => _) :: l, .cons hn ⟨hN, hi, hl⟩ (fun a o cls d pn zc fl => pss_one (ps_ret (pe_op op_add_str pe_str (pe_callB (id := "repr") (X := Z.suite a ((a, o) :: pn)) (cr a ((a, o) :: pn)) hgr hmr (by decide +kernel) (pa_cons (pe_xf T hno zc fl (pe_var hi hv hd hcd)) pa_nil))))) r1, hx, fun a cls d D H ρ st e _ rs rx _ g => ?_, r2⟩
  unfold hF at g
  cases ef : e.fld with
  | none =>
    rw [ef] at g
    exact g.elim
  | some fp =>
    obtain ⟨f', pv⟩ := fp
    rw [ef] at g
    dsimp only at g
    split at g
    · rename_i hh
      obtain ⟨h1, h2⟩ := hh
      obtain ⟨x1, x2⟩ := rx
      rw [ef] at x2
      obtain ⟨dd, v, ed, hdd, rv⟩ := x2
      rw [h1, hca] at x1
      cases x1
      subst h2
      refine ⟨.ref a, List.getElem?_set_self hil, rfl, rfl, dd, _, v, ed, hdd, ?_, ?_⟩
      · simp [List.lookup]
      · refine (show rReprA Z.K [v] H (fun y H2 => ∃ i j, V.str z = .str i ∧ y = .str j ∧ i.length + j.length ≤ sizeLine ∧ D.rt (.str (i ++ j)) H2) from ?_)
        rw [← hK]
        refine ok_repr (J := ⟨W, fun _ _ _ _ => False, noTr⟩) noE H ρ st [pv] [v] _ rs ⟨v, [], rfl, rv, rfl⟩ (gR.bind g fun w st1 H1 ρ1 x _ s1 r g1 => ?_)
        cases w with
        | str y =>
          dsimp only at g1
          split at g1
          · rename_i hb
            obtain rfl : x = V.str (toS y) := r
            refine ⟨z, toS y, rfl, rfl, ?_, ?_⟩
            · rw [hz, str_len, str_len, sizeLine_eq]
              exact Nat.le_of_ble_eq_true hb
            · refine g1 H1 ρ1 _ (.refl s1.rs) ?_
              show V.str (z ++ toS y) = V.str (toS (t ++ y))
              rw [hz, ← str_app]
          · exact g1.elim
        | _ => exact g1.elim
    · exact g.elim
end
end Mi
end
section
set_option maxRecDepth 100000
set_option maxHeartbeats 4000000
/-! MiOwn: the facts of an own exception class with a field, as a Bool of the frame -/
namespace Mi
open PySem PySem.Spec PyProof.Rows L2 PySem.W
/-- the two statements of such an __init__: the names they use -/
def stmB (f g : Str) : List Stmt → Bool
  | [.Expr (.Call (.Attribute (.Call (.Name s _) [] [] _) i p2) [.Constant (.str _) _ _] [] p4) _, .Assign [.Attribute (.Name a _) f' _] (.Name g' _) _] =>
    decide (s = "super") && (decide (i = "__init__") && (decide (a = "self") && (decide (f' = f) && (decide (g' = g) && (p2.endLine == p4.line)))))
  | _ => false
theorem stmB_ok {f g : Str} {b : List Stmt} (h : stmB f g b = true) : ∃ (msg : Str) (j : Nat) (p0 p1 p2 p3 p4 p5 p6 p7 p8 p9 : Pos), (p2.endLine == p4.line) = true ∧
    b = [.Expr (.Call (.Attribute (.Call (.Name "super" p0) [] [] p1) "__init__" p2) [.Constant (.str msg) j p3] [] p4) p5, .Assign [.Attribute (.Name "self" p6) f p7] (.Name g p8) p9] := by
  unfold stmB at h
  split at h
  · simp only [Bool.and_eq_true, decide_eq_true_eq] at h
    obtain ⟨rfl, rfl, rfl, rfl, rfl, hl⟩ := h
    exact ⟨_, _, _, _, _, _, _, _, _, _, _, _, hl, rfl⟩
  · cases h
def prmB (g : Str) : Arguments → Bool
  | ⟨[], [⟨a, _, _⟩, ⟨g', _, _⟩], none, [], [], none, []⟩ => decide (a = "self") && decide (g' = g)
  | _ => false
theorem prmB_ok {g : Str} {p : Arguments} (h : prmB g p = true) : ∃ (an1 an2 : Option Expr) (q1 q2 : Pos), p = ⟨[], [⟨"self", an1, q1⟩, ⟨g, an2, q2⟩], none, [], [], none, []⟩ := by
  unfold prmB at h
  split at h
  · simp only [Bool.and_eq_true, decide_eq_true_eq] at h
    obtain ⟨rfl, rfl⟩ := h
    exact ⟨_, _, _, _, rfl⟩
  · cases h
def filB (K : Frag) (file : Str) (cda : Addr) : Bool := match K.lookup cda with
  | some ⟨_, _, .fields vs, _⟩ => (match vs[2]? with
    | some (Value.str fl _) => decide (fl = file)
    | _ => false)
  | _ => false
theorem filB_ok {K : Frag} {file : Str} {cda : Addr} (h : filB K file cda = true) : ∃ (ccl : Value) (cdd : Option Addr) (vs : Array Value) (ccs : Array (Option Value)) (tf : Tok), K.lookup cda = some ⟨ccl, cdd, .fields vs, ccs⟩ ∧ vs[2]? = some (.str file tf) := by
  unfold filB at h
  split at h
  · rename_i e
    split at h
    · rename_i e2
      rw [of_decide_eq_true h] at e2
      exact ⟨_, _, _, _, _, e, e2⟩
    · cases h
  · cases h
def celB (K : Frag) (C cc : Addr) : Bool := match K.lookup cc with
  | some ⟨_, _, .cell (some (.ref D)), _⟩ => decide (D = C)
  | _ => false
theorem celB_ok {K : Frag} {C cc : Addr} (h : celB K C cc = true) : ∃ (cl : Value) (cld : Option Addr) (csl : Array (Option Value)), K.lookup cc = some ⟨cl, cld, .cell (some (.ref C)), csl⟩ := by
  unfold celB at h
  split at h
  · rename_i e
    rw [of_decide_eq_true h] at e
    exact ⟨_, _, _, e⟩
  · cases h
def scoB (g : Str) (s : Scope) : Bool := decide (g ≠ "self") && (!(g == ("__debug__" : Str)) && (decide (s.kind = .function) && (!s.isCoroutine && (!s.isGenerator && (s.names.all (fun y => decide (y.2 ≠ .cell)) &&
  (decide (s.names.lookup ("self" : Str) = some .local) && (decide (s.names.lookup g = some .local) && (decide (s.names.lookup ("__class__" : Str) = some .free) && decide (s.names.lookup ("super" : Str) = some .globalImplicit)))))))))
def funB (K : Frag) (file : Str) (C : Addr) (f g : Str) (fd : FuncData) : Bool := match fd.closure, fd.code, fd.body with
  | [(cn, cc)], .ref cda, .stmts b => decide (fd.name = "__init__") && (prmB g fd.params && (stmB f g b && (scoB g fd.scope && (decide (fd.globals = mainGlobals) && (decide (cn = "__class__") && (decide (fd.defaults = .none) && (decide (fd.builtins = builtinsNs) && (codeIn K (.ref cda) fd.qualname && (filB K file cda && celB K C cc)))))))))
  | _, _, _ => false
/-- the whole of it: class x, field f, parameter g -/
def ownB (K : Frag) (x : Str) (B newId initId : String) (bmB : List Value) (f g file : Str) : Bool :=
  (match K.lookup (He.ga K x) with
    | some ⟨.type "type", _, .cls cd, sl⟩ => (match sl.toList with
      | [_, _, _, _, some (.builtin n), _] => decide (cd.mro = .ref (He.ga K x) :: bmB) && (cd.hasDict && (!cd.hasDel && decide (n = newId)))
      | _ => false)
    | _ => false) &&
  (He.eqO (findIn K (.ref (He.ga K x)) "__setattr__") (some (some (.builtin "object.__setattr__"))) && (He.eqO (findIn K (.ref (He.ga K x)) f) (some none) && (decide (subIn K (.ref (He.ga K x)) (.type "BaseException") = some true) && (decide (subIn K (.ref (He.ga K x)) (.type B) = some true) &&
  (decide (typeIn K (.ref (He.ga K x)) = some (.type "type")) && (keepIn K (.ref (He.ga K x)) && (He.eqO (findIn K (.ref (He.ga K x)) "__init__") (some (some (.ref (He.ma K (He.ga K x) "__init__")))) && (decide (typeIn K (.ref (He.ma K (He.ga K x) "__init__")) = some (.type "function")) &&
  (He.eqO (ks_superIn K (He.ga K x) (He.ga K x) "__init__") (some (some (.builtin initId))) && (He.eqO (nsIn K cStatics "thirdparty.any") (some none) && (xfB K (He.ga K x) && (match K.lookup (He.ma K (He.ga K x) "__init__") with
    | some ⟨_, _, .func fd, _⟩ => funB K file (He.ga K x) f g fd
    | _ => false))))))))))))
/-- what follows of it -/
structure OwnX (K : Frag) (x : Str) (B newId initId : String) (bmB : List Value) (f file : Str) : Prop where
  own : OwnI K (He.ga K x) (He.ma K (He.ga K x) "__init__") B newId initId bmB f
  xf : XfC K (He.ga K x)
  ini : ∃ (q g msg : Str) (an1 an2 : Option Expr) (j : Nat) (q1 q2 p0 p1 p2 p3 p4 p5 p6 p7 p8 p9 : Pos) (scope : Scope) (cc cda : Addr), InitB K file (He.ga K x) (He.ma K (He.ga K x) "__init__") f q g msg an1 an2 j q1 q2 p0 p1 p2 p3 p4 p5 p6 p7 p8 p9 scope cc cda
theorem funB_ok {K : Frag} {file : Str} {C fI : Addr} {f g : Str} {fd : FuncData} {oc : Value} {od : Option Addr} {osl : Array (Option Value)} (lk : K.lookup fI = some ⟨oc, od, .func fd, osl⟩) (h : funB K file C f g fd = true) :
    ∃ (q g msg : Str) (an1 an2 : Option Expr) (j : Nat) (q1 q2 p0 p1 p2 p3 p4 p5 p6 p7 p8 p9 : Pos) (scope : Scope) (cc cda : Addr), InitB K file C fI f q g msg an1 an2 j q1 q2 p0 p1 p2 p3 p4 p5 p6 p7 p8 p9 scope cc cda := by
  obtain ⟨n1, n2, n3, n4, n5, n6, n7, n8, n9, n10, n11, n12, n13, n14, n15⟩ := fd
  unfold funB at h
  split at h
  · rename_i cn cc cda b e1 e2 e3
    dsimp only at e1 e2 e3
    subst e1 e2 e3
    simp only [Bool.and_eq_true, decide_eq_true_eq] at h
    obtain ⟨rfl, h1, h2, h3, rfl, rfl, rfl, rfl, h4, h5, h6⟩ := h
    obtain ⟨an1, an2, q1, q2, rfl⟩ := prmB_ok h1
    obtain ⟨msg, j, p0, p1, p2, p3, p4, p5, p6, p7, p8, p9, ln, rfl⟩ := stmB_ok h2
    unfold scoB at h3
    simp only [Bool.and_eq_true, decide_eq_true_eq, Bool.not_eq_true', List.all_eq_true] at h3
    obtain ⟨s1, s2, s3, s4, s5, s6, s7, s8, s9, s10⟩ := h3
    exact ⟨_, g, msg, an1, an2, j, q1, q2, p0, p1, p2, p3, p4, p5, p6, p7, p8, p9, _, _, _, ⟨⟨_, _, _, _, _, _, _, _, lk⟩, h4, filB_ok h5, celB_ok h6, s1, s2, s3, s4, s5, s6, s7, s8, s9, s10, ln⟩⟩
  · cases h
theorem ownB_ok {K : Frag} {x : Str} {B newId initId : String} {bmB : List Value} {f g file : Str} (h : ownB K x B newId initId bmB f g file = true) : OwnX K x B newId initId bmB f file := by
  unfold ownB at h
  obtain ⟨h0, h⟩ := He.ba h
  obtain ⟨h1, h⟩ := He.ba h
  obtain ⟨h2, h⟩ := He.ba h
  obtain ⟨h3, h⟩ := He.ba h
  obtain ⟨h4, h⟩ := He.ba h
  obtain ⟨h5, h⟩ := He.ba h
  obtain ⟨h6, h⟩ := He.ba h
  obtain ⟨h7, h⟩ := He.ba h
  obtain ⟨h8, h⟩ := He.ba h
  obtain ⟨h9, h⟩ := He.ba h
  obtain ⟨h10, h⟩ := He.ba h
  obtain ⟨h11, h12⟩ := He.ba h
  refine ⟨⟨?_, He.eqO_ok h1, He.eqO_ok h2, of_decide_eq_true h3, of_decide_eq_true h4, of_decide_eq_true h5, h6, He.eqO_ok h7, of_decide_eq_true h8, He.eqO_ok h9, He.eqO_ok h10⟩, xfB_ok h11, ?_⟩
  · split at h0
    · rename_i dd cd sl ho
      split at h0
      · rename_i k0 k1 k2 k3 n k5 hs
        simp only [Bool.and_eq_true, decide_eq_true_eq, Bool.not_eq_true'] at h0
        obtain ⟨a1, a2, a3, rfl⟩ := h0
        obtain ⟨nm, bs, mro, ns, qn, hd, sn, sb, ab, col, del⟩ := cd
        dsimp only at a1 a2 a3
        subst a1 a2 a3
        have hsl : sl = #[k0, k1, k2, k3, some (.builtin n), k5] := by
          obtain ⟨l⟩ := sl
          simp only at hs
          rw [hs]
        subst hsl
        exact ⟨_, _, _, _, _, _, _, _, _, _, _, _, _, _, ho⟩
      · cases h0
    · cases h0
  · split at h12
    · rename_i ho
      exact funB_ok ho h12
    · cases h12
end Mi
end
section
set_option maxRecDepth 100000
set_option maxHeartbeats 4000000
/-! MiHook: the head's facts with the statics' table in the frame; the law's end with code tables -/
namespace Mi
open PySem PySem.Spec PyProof.Rows L2 LamX
abbrev asZ (g : Addr → Option Obj) (n : Nat) : List Addr := cStatics :: He.asD g n
def obsZ (n : Nat) (fa : List He.Fa) (fn : List He.DefD) (ts : List He.Tab) (tf : List He.Defn) (ex : PySem.W.Frag → Bool) (g : Addr → Option Obj) : He.AlX := (He.obsT fa fn ts (He.frT g (asZ g n)), ex (He.frT g (asZ g n)) && He.tabsB g tf (He.frT g (asZ g n)))
theorem saysZ_of {n : Nat} {fa : List He.Fa} {fn : List He.DefD} {ts : List He.Tab} {tf : List He.Defn} {ex : PySem.W.Frag → Bool} {w : World} {h : Heap} (e : obsZ n fa fn ts tf ex h.get? = He.valX fn ts w) : He.SaysX fa fn ts tf ex w h (He.frT h.get? (asZ h.get? n)) := by
  obtain ⟨h1, h2⟩ := He.ba (show (ex (He.frT h.get? (asZ h.get? n)) && He.tabsB h.get? tf (He.frT h.get? (asZ h.get? n))) = true from congrArg (fun z : He.AlX => z.2) e)
  have one : ∀ p ∈ tf, PySem.W.codeHdIn (He.frT h.get? (asZ h.get? n)) (He.cT (He.frT h.get? (asZ h.get? n)) p).1 (He.cT (He.frT h.get? (asZ h.get? n)) p).2 = true ∧ ∃ o, h.get? (He.cT (He.frT h.get? (asZ h.get? n)) p).2 = some o ∧ He.emptyTab o = true := fun p hp => by
    obtain ⟨a, b⟩ := He.ba (List.all_eq_true.mp h2 p hp)
    revert b
    cases h.get? (He.cT (He.frT h.get? (asZ h.get? n)) p).2 with
    | none => exact fun b => nomatch b
    | some o => exact fun b => ⟨a, o, rfl, b⟩
  refine ⟨congrArg (fun z : He.AlX => z.1) e, h1, fun p hp => (one p hp).1, fun p hp => ?_, fun p hp => ?_⟩
  · obtain ⟨_, o, a, b⟩ := one p hp
    exact He.frT_none a b
  · obtain ⟨_, o, a, b⟩ := one p hp
    rw [a, He.emptyTab_eq b]
def hookZ (n : Nat) (fa : List He.Fa) (fn : List He.DefD) (ts : List He.Tab) (tf : List He.Defn) (ex : PySem.W.Frag → Bool) : PySem.W.Hook where
  α := He.AlX
  obs := fun s => obsZ n fa fn ts tf ex s.heap.get?
  val := fun w => He.valX fn ts w
  says := fun w h => ∃ K : PySem.W.Frag, K.In h ∧ He.SaysX fa fn ts tf ex w h K
  of := fun _ _ e => ⟨_, He.frT_in, saysZ_of e⟩
  keeps := fun _ _ _ ⟨K, hK, c⟩ k => ⟨K, PySem.W.Frag.In.keeps hK k, ⟨c.t, c.more, c.hd, c.out, fun p hp => k _ _ (c.empty p hp)⟩⟩
theorem obsZ_eq {n : Nat} {fa : List He.Fa} {fn : List He.DefD} {ts : List He.Tab} {tf : List He.Defn} {ex : PySem.W.Frag → Bool} {g : Addr → Option Obj} {s : Shared} (h : ∀ a, g a = s.heap.get? a) : obsZ n fa fn ts tf ex g = (hookZ n fa fn ts tf ex).obs s := by
  have e : g = s.heap.get? := funext h
  rw [e] <;> rfl
/-! ### tables -/
def tabT (K : PySem.W.Frag) (tf : List He.Defn) : List (Addr × Str) := tf.map fun p => ((He.cT K p).2, (p.1 ++ ".<locals>.") ++ "<lambda>")
def nodB (K : PySem.W.Frag) (tf : List He.Defn) : Bool := decide ((tf.map fun p => (He.cT K p).2).Nodup)
theorem tabT_mem {K : PySem.W.Frag} {tf : List He.Defn} {p : He.Defn} (h : p ∈ tf) : ((He.cT K p).2, (p.1 ++ ".<locals>.") ++ "<lambda>") ∈ tabT K tf := List.mem_map.mpr ⟨p, h, rfl⟩
theorem tabT_one {K : PySem.W.Frag} {tf : List He.Defn} (hn : nodB K tf = true) {p : He.Defn} (h : p ∈ tf) : ∀ q ∈ tabT K tf, q.1 = (He.cT K p).2 → q.2 = (p.1 ++ ".<locals>.") ++ "<lambda>" := fun q hq e => by
  obtain ⟨r, hr, rfl⟩ := List.mem_map.mp hq
  have hn : (tf.map fun p => (He.cT K p).2).Nodup := of_decide_eq_true hn
  have e : (He.cT K r).2 = (He.cT K p).2 := e
  have key : ∀ l : List He.Defn, (l.map fun p => (He.cT K p).2).Nodup → r ∈ l → p ∈ l → r = p := fun l => by
    induction l with
    | nil => exact fun _ h _ => nomatch h
    | cons x l ih =>
      intro nd h1 h2
      have nd : ((He.cT K x).2 :: l.map fun p => (He.cT K p).2).Nodup := nd
      obtain ⟨n1, n2⟩ := List.nodup_cons.mp nd
      rcases List.mem_cons.mp h1 with a1 | a1 <;> rcases List.mem_cons.mp h2 with a2 | a2
      · rw [a1, a2]
      · exact absurd (List.mem_map.mpr ⟨p, a2, by rw [← a1]; exact e.symm⟩) n1
      · exact absurd (List.mem_map.mpr ⟨r, a1, by rw [← a2]; exact e⟩) n1
      · exact ih n2 a1 a2
  rw [key tf hn hr h]
/-- the world of a law's call: the defs that are values, the classes, the tables -/
abbrev W1 (K : PySem.W.Frag) (fs : Nat → Option Addr) (xs : List Str) (tf : List He.Defn) : Wd := ⟨K, fs, caT K xs, 0, tabT K tf⟩
section
variable {K : PySem.W.Frag} {fs : Nat → Option Addr} {xs : List Str} {tf : List He.Defn}
theorem RSt.fz1 {H : Hp} {a : Addr} {ns : List Int} (ht : ∀ p ∈ tf.map (He.cT K), H p.2 = some (.tbl #[])) (h : FzL K H a (ns.map V.int)) : RSt (W1 K fs xs tf) H (fun _ => a) [.fz (ns.map .int)] := by
  refine ⟨fun i j o u ei _ m _ _ => ?_, fun i o e => ?_, fun q hq => ?_⟩
  · cases i with
    | zero =>
      cases ei
      cases m
    | succ i => simp at ei
  · cases i with
    | zero =>
      cases e
      exact ⟨_, h, rvs_of_ints ns⟩
    | succ i => simp at e
  · obtain ⟨p, hp, rfl⟩ := List.mem_map.mp hq
    exact TabS.nil (ht _ (List.mem_map.mpr ⟨p, hp, rfl⟩))
theorem spN_law1 {F : Fn} (PL : Plain F) {H : Hp} {a : Addr} {ns : List Int} (hl : ns.length ≤ 63) (hb : ∀ z ∈ ns, Builtin.Int.intBits z ≤ 1048576) (ht : ∀ p ∈ tf.map (He.cT K), H p.2 = some (.tbl #[])) (h : FzL K H a (ns.map V.int)) :
    spN (W1 K fs xs tf) 1 F [.ref a] H (fun v _ => v = .bl true) fun _ _ _ => False := by
  obtain ⟨st, e⟩ := PL ns hl hb
  refine ⟨fun _ => a, [.ref 0], [.fz (ns.map .int)], rfl, RSt.fz1 ht h, ⟨_, _, rfl, ⟨Nat.succ_pos _, rfl⟩, rfl⟩, ?_⟩
  rw [e]
  exact fun H' ρ' x _ hx => hx
theorem lawG1 {l : PySem.W.OpenLaw} {w : World} {k : Nat} {x : Str} {mg : Str → Option Value} {f : Addr} {h : Heap} {fd : FuncData} {F : Fn} {fa : List He.Fa} {fn : List He.DefD} {ts : List He.Tab} {ex : PySem.W.Frag → Bool} (X : K.In h) (c : He.SaysX fa fn ts tf ex w h K) (PL : Plain F) (hb : ∀ (s : Shared) (u : Value), BindsTo s fd ⟨[u], []⟩ [(x, u)])
    (hF : ∀ base : Heap, K.In base → base.Ns mainGlobals mg → (∀ p ∈ tf.map (He.cT K), TabB base mg p.1 p.2) → FnG l.prog w K mg base k f fd [x] (spN (W1 K fs xs tf) 1 F)) : LawG l w K k 63 x mg f h :=
  ⟨fd, tf.map (He.cT K), _, fun q hq => by
    obtain ⟨p, hp, rfl⟩ := List.mem_map.mp hq
    exact c.empty p hp, fun q hq => by
    obtain ⟨p, hp, rfl⟩ := List.mem_map.mp hq
    exact c.out p hp, fun q hq => by
    obtain ⟨p, hp, rfl⟩ := List.mem_map.mp hq
    exact PySem.W.codeHd_of_K X (c.hd p hp), hb, fun H a ns h1 h2 ht h3 => spN_law1 PL h1 h2 ht h3, fun base h1 h2 tb => hF base h1 h2 tb⟩
end
/-! ### a def in which lambdas stand -/
theorem fn_okL {P : Program} {w : World} {K : PySem.W.Frag} {mg : Str → Option Value} {base : Heap} {x qual : Str} {params : Arguments} {body : List Stmt} {scope : Scope} {p : He.Defn} {fd : FuncData} {W : Wd} {N ps : List Str} {k : Nat} {d : DS} {G : Fn} (hK : W.K = K) (F : FunD K x qual params body scope [] [] (He.fAd K p) fd) (S : FnScope N ps scope) (hR : Ref G (mkF N.length d))
    (hb : ∀ (cdv : Value) (A : Around) (outer : List PySem.Env) (s : Shared) (H : Hp) (E : XK), cdv = .ref (He.codeOf K p) → Room k (A.deeper (envOfC qual scope s.heap.objs.size (He.fAd K p) cdv)) → XK2 (cxB P w K mg base N qual scope (He.fAd K p) cdv A outer s H E) (jxB W E) → PSs (cxB P w K mg base N qual scope (He.fAd K p) cdv A outer s H E) body (rdS (jxB W E) d)) :
    FnG P w K mg base (k + 1) (He.fAd K p) fd ps (spN W ps.length G) := by
  obtain ⟨oc, od, dV, kV, doc, pm, an, cdv, ct, osl, rfl, lk, hcd, _, _⟩ := F.ex
  obtain ⟨c0, rfl⟩ := He.codeIn_ref hcd
  have ec : Value.ref c0 = .ref (He.codeOf K p) := by rw [He.codeOf_eq lk rfl]
  have len : ∀ vs H Q E, spN W ps.length G vs H Q E → vs.length = ps.length := fun vs H Q E ⟨ρ, qs, st, h1, _, h2, _⟩ => by rw [← h2.length, h1]
  refine ⟨len, fun A outer s H args us vs Q E hr hg e0 hbi hv h => LamX.run_ofS lk hcd S hr e0 hbi hv (len _ _ _ _ h) fun hr' => ⟨_, hb _ A outer s H E ec hr' (cx_ok S hK rfl hg), ?_⟩⟩
  obtain ⟨ρ, qs, st, h1, h2, h3, g⟩ := h
  replace g := hR W E H ρ st qs vs Q h2 h3 g
  refine ⟨ρ, noTh, env0 N.length qs, st, ⟨h2, REnv.start h3, trivial⟩, ?_⟩
  unfold mkF at g
  cases r : d noTh (env0 N.length qs) st with
  | nx env st1 =>
    rw [r] at g
    exact fun H' ρ' σ' s' _ => g H' ρ' .non s' rfl
  | rt v st1 =>
    rw [r] at g
    exact g
  | bk env st1 =>
    rw [r] at g
    exact g.elim
  | ct env st1 =>
    rw [r] at g
    exact g.elim
  | exc e env st1 =>
    rw [r] at g
    exact fun H' ρ' σ' c dd s' _ rx => g H' ρ' c dd s' rx
  | bad =>
    rw [r] at g
    exact g.elim
end Mi
end
section
set_option maxRecDepth 100000
set_option maxHeartbeats 4000000
/-! MiErr: what the printed texts of the error laws use -/
namespace Mi
open PySem PySem.Spec PyProof.Rows L2 LamX
/-- {key: text} of constants -/
def dDictS (k s : List Nat) : DE := fun _ _ st => .ok (.ref st.length) (st ++ [.dct [(.inr (toS k), .str s)]])
section
variable {X : Cx} {J : Jx}
theorem xe_dictS {z y : Str} {k s : List Nat} {j1 j2 : Nat} {p1 p2 pos : Pos} (hz : z = toS k) (hy : y = toS s) : PE X (.Dict [some (.Constant (.str z) j1 p1)] [.Constant (.str y) j2 p2] pos) (rdE J (dDictS k s)) := by
  subst hz hy
  refine PE.imp (pe_disp (pps_cons pe_str pe_str pps_nil) rfl rfl (by simp) (by simp)) fun σ H Q h => ?_
  obtain ⟨ρ, th, env, st, S, g⟩ := h
  intro p hp
  refine ⟨upd_same, [(.inr (toS k), .str (toS s))], rfl, by simp, ?_⟩
  rw [upd_upd]
  exact g _ _ _ (.alloc (so := .dct [(.inr (toS k), .str s)]) S.rs hp ⟨[(.inr (toS k), .str (toS s))], upd_same, .str (toS s), [], rfl, rfl, rfl⟩ rfl) ⟨by simp, by rw [put_same]⟩
/-- defs that are values -/
def faT (K : PySem.W.Frag) (l : List Str) (j : Nat) : Option Addr := (l[j]?).map fun x => He.ga K x
theorem xe_fn {x : Str} {a : Addr} {j : Nat} {pos : Pos} (hg : Gl X x) (hm : X.mg x = some (.ref a)) (hf : J.W.fa j = some a) (hd : (x == ("__debug__" : Str)) = false := by decide) : PE X (.Name x pos) (rdE J (dC (.fn j))) :=
  xe_glob hg hm (v := .ref a) rfl (fun _ _ _ => ⟨a, hf, rfl⟩) hd
/-- what is known of a class without fields -/
structure OwnS (K : PySem.W.Frag) (x : Str) : Prop where
  q : PySem.W.excIn K (He.ga K x) He.veBase "ValueError.__new__" = true
  k : PySem.W.keepIn K (.ref (He.ga K x)) = true
  b : PySem.W.subIn K (.ref (He.ga K x)) (.type "BaseException") = some true
  t : PySem.W.typeIn K (.ref (He.ga K x)) = some (.type "type")
theorem ownS_of {K : PySem.W.Frag} {x : Str} (c : (He.Fa.exc x).ok K = true) : OwnS K x := by
  obtain ⟨h1, h2, h3, h4⟩ := He.exc_ok c
  exact ⟨h1, h2, h3, h4⟩
theorem ys_raiseS {x m : Str} {j n : Nat} {p p2 pos rp : Pos} (J2 : XK2 X J) (O : OwnS X.K x) (gC : X.mg x = some (.ref (He.ga X.K x))) (hg : Gl X x) (hn : J.W.ca n = some (.ref (He.ga X.K x))) (hdb : (x == ("__debug__" : Str)) = false := by decide) :
    PS X (.Raise (some (.Call (.Name x p) [.Constant (.str m) j p2] [] pos)) none rp) (rdS J (dRaise0 n)) :=
  ys_raise0 J2 PySem.F.excBase_ValueError O.q gC O.k (raises_own O.b O.t) hg hn hdb
theorem ys_raiseF {n : Nat} {x : Str} {B newId initId : String} {bmB : List Value} {f file : Str} {e : Expr} {de : DE} {p pos rp : Pos} (J2 : XK2 X J) (KF : PySem.W.KxsFacts B initId) (FB : ExcBaseFacts B newId initId bmB) (SF : StoreFacts B bmB "object.__setattr__" "object") (hb : ∀ c r, bmB ≠ .ref c :: r)
    (O : OwnX X.K x B newId initId bmB f file) (hfile : X.prog.main.file = file) (htop : (X.prog.main.scope.names.lookup ("super" : Str)).isSome = false) (hs : X.mg "super" = none) (hr : Room 1 X.A) (hg : Gl X x) (hm : X.mg x = some (.ref (He.ga X.K x))) (hn : J.W.ca n = some (.ref (He.ga X.K x)))
    (he : PE X e (rdE J de)) (hdb : (x == ("__debug__" : Str)) = false := by decide) (hse : starEach (e :: []) X.env = (false, eval e X.env) :: starEach [] X.env := by rfl) :
    PS X (.Raise (some (.Call (.Name x p) [e] [] pos)) none rp) (rdS J (dRaise1 n f de)) := by
  obtain ⟨_, _, _, _, _, _, _, _, _, _, _, _, _, _, _, _, _, _, _, _, _, IB⟩ := O.ini
  exact ys_raise1 (k := 0) J2 KF FB SF hb O.own IB hfile htop hs hr hg hm hn he hdb hse
end
theorem ne_ref {T : String} {l : List Value} : ∀ c r, (Value.type T :: l) ≠ .ref c :: r := fun _ _ z => nomatch z
/-- the law's def that calls what it got: its clause for m -/
theorem nm_of {Z : Cx} {x : Str} {a : Addr} (hg : Gl Z x) (hd : (x == ("__debug__" : Str)) = false) (hm : Z.mg x = some (.ref a)) : Names Z x (.ref a) := ⟨hg, hd, .inl hm⟩
theorem mx_nil {Z : Cx} {W : Wd} {σ0 : L2.St} {sub : Nat → Nat → Bool} : ∃ l, MixOk Z [] l ∧ ClsOk Z.K W σ0 sub [] l := ⟨[], .nil, trivial⟩
end Mi
end
section
set_option maxRecDepth 100000
set_option maxHeartbeats 4000000
/-! MiDct: dicts whose keys are ints and texts: displays, [], in, =, pop, walks under a lock -/
namespace Mi
open PySem PySem.Spec PyProof.Rows L2
/-! ### keys -/
def natsB : List Nat → List Nat → Bool
  | [], [] => true
  | a :: as, b :: bs => Nat.beq a b && natsB as bs
  | _, _ => false
theorem natsB_iff : ∀ {a b : List Nat}, natsB a b = true ↔ a = b
  | [], [] => by simp [natsB]
  | a :: as, b :: bs => by
    unfold natsB
    rw [Bool.and_eq_true, natsB_iff, Nat.beq_eq]
    simp
  | [], _ :: _ => by simp [natsB]
  | _ :: _, [] => by simp [natsB]
def keyB : Key → Key → Bool
  | .inl i, .inl j => decide (i = j)
  | .inr a, .inr b => natsB a.cps.toList b.cps.toList
  | _, _ => false
theorem keyB_iff {a b : Key} : keyB a b = true ↔ a = b := by
  cases a with
  | inl i =>
    cases b with
    | inl j => simp [keyB]
    | inr y => simp [keyB]
  | inr x =>
    cases b with
    | inl j => simp [keyB]
    | inr y =>
      unfold keyB
      dsimp only
      rw [natsB_iff]
      constructor
      · intro h
        have e : x = y := by
          have h2 : x.cps = y.cps := by
            have := congrArg List.toArray h
            simpa using this
          cases x
          cases y
          simpa using h2
        rw [e]
      · intro h
        cases h
        rfl
theorem keyB_eq (a b : Key) : keyB a b = decide (a = b) := by
  cases h : keyB a b with
  | true => exact (decide_eq_true (keyB_iff.mp h)).symm
  | false => exact (decide_eq_false fun z => by rw [keyB_iff.mpr z] at h; cases h).symm
def keyP : Key → PV
  | .inl i => .int i
  | .inr x => .str x.cps.toList
def keyOf : PV → Option Key
  | .int i => some (.inl i)
  | .str s => some (.inr (toS s))
  | _ => none
section
variable {W : Wd} {H H' : Hp} {ρ : Nat → Addr} {n : Nat}
theorem keyOf_ok {p : PV} {v : V} {k : Key} (h : RV W H ρ n p v) (e : keyOf p = some k) : v = kV k := by
  cases p <;> simp only [keyOf] at e <;> try (cases e; done)
  · cases e
    exact h
  · cases e
    exact h
theorem keyP_ok (k : Key) : RV W H ρ n (keyP k) (kV k) := by
  cases k with
  | inl i => exact rfl
  | inr x => exact rfl
/-! ### tables -/
def valP : List (Key × PV) → Key → Option PV
  | [], _ => none
  | (j, p) :: r, k => match keyB j k with
    | true => some p
    | false => valP r k
def anyP : List (Key × PV) → Key → Bool
  | [], _ => false
  | (j, _) :: r, k => keyB j k || anyP r k
def chgP (k : Key) (p : PV) : List (Key × PV) → List (Key × PV)
  | [] => []
  | (j, q) :: r => (match keyB j k with
    | true => (j, p)
    | false => (j, q)) :: chgP k p r
def putP (kvs : List (Key × PV)) (k : Key) (p : PV) : List (Key × PV) := match anyP kvs k with
  | true => chgP k p kvs
  | false => kvs ++ [(k, p)]
def dropP : List (Key × PV) → Key → List (Key × PV)
  | [], _ => []
  | (j, p) :: r, k => match keyB j k with
    | true => dropP r k
    | false => (j, p) :: dropP r k
def mergeP (kvs : List (Key × PV)) : List (Key × PV) → List (Key × PV)
  | [] => kvs
  | (k, p) :: r => mergeP (putP kvs k p) r
theorem RKs.length : ∀ {ps : List (Key × PV)} {vs : List (Key × V)}, RKs W H ρ n ps vs → ps.length = vs.length
  | [], _, h => by
    have h : _ = [] := h
    rw [h] <;> rfl
  | (_, _) :: _, _, ⟨v, r, e, _, t⟩ => by rw [e, List.length_cons, List.length_cons, RKs.length t]
/-- what may be there -/
def OV (W : Wd) (H : Hp) (ρ : Nat → Addr) (n : Nat) (o : Option PV) (v : Option V) : Prop := match o with
  | some p => ∃ z, v = some z ∧ RV W H ρ n p z
  | none => v = none
theorem RKs.val {k : Key} : ∀ {ps : List (Key × PV)} {vs : List (Key × V)}, RKs W H ρ n ps vs → OV W H ρ n (valP ps k) (valV vs k)
  | [], _, h => by
    have h : _ = [] := h
    rw [h] <;> rfl
  | (j, p) :: ps, _, ⟨v, r, e, h, t⟩ => by
    subst e
    unfold valP
    rw [keyB_eq]
    by_cases hj : j = k
    · rw [decide_eq_true hj]
      exact ⟨v, valV_pos hj, h⟩
    · rw [decide_eq_false hj, valV_neg hj]
      exact RKs.val t
theorem RKs.any {k : Key} : ∀ {ps : List (Key × PV)} {vs : List (Key × V)}, RKs W H ρ n ps vs → (vs.any fun kv => decide (kv.1 = k)) = anyP ps k
  | [], _, h => by
    have h : _ = [] := h
    rw [h] <;> rfl
  | (j, p) :: ps, _, ⟨v, r, e, h, t⟩ => by
    subst e
    unfold anyP
    rw [keyB_eq, List.any_cons, RKs.any t]
theorem RKs.app {k : Key} {p : PV} {v : V} (hp : RV W H ρ n p v) : ∀ {ps : List (Key × PV)} {vs : List (Key × V)}, RKs W H ρ n ps vs → RKs W H ρ n (ps ++ [(k, p)]) (vs ++ [(k, v)])
  | [], _, h => by
    have h : _ = [] := h
    subst h
    exact ⟨v, [], rfl, hp, rfl⟩
  | (j, q) :: ps, _, ⟨w, r, e, h, t⟩ => by
    subst e
    exact ⟨w, _, rfl, h, RKs.app hp t⟩
theorem RKs.chg {k : Key} {p : PV} {v : V} (hp : RV W H ρ n p v) : ∀ {ps : List (Key × PV)} {vs : List (Key × V)}, RKs W H ρ n ps vs → RKs W H ρ n (chgP k p ps) (vs.map fun kv => if kv.1 = k then (kv.1, v) else kv)
  | [], _, h => by
    have h : _ = [] := h
    subst h
    exact rfl
  | (j, q) :: ps, _, ⟨w, r, e, h, t⟩ => by
    subst e
    unfold chgP
    rw [keyB_eq, List.map_cons]
    by_cases hj : j = k
    · rw [decide_eq_true hj]
      dsimp only
      rw [if_pos hj]
      exact ⟨v, _, rfl, hp, RKs.chg hp t⟩
    · rw [decide_eq_false hj]
      dsimp only
      rw [if_neg hj]
      exact ⟨w, _, rfl, h, RKs.chg hp t⟩
theorem RKs.put {k : Key} {p : PV} {v : V} (hp : RV W H ρ n p v) {ps : List (Key × PV)} {vs : List (Key × V)} (h : RKs W H ρ n ps vs) : RKs W H ρ n (putP ps k p) (putK vs k v) := by
  unfold putP putK
  rw [h.any]
  cases anyP ps k with
  | true => exact h.chg hp
  | false => exact h.app hp
theorem RKs.drop {k : Key} : ∀ {ps : List (Key × PV)} {vs : List (Key × V)}, RKs W H ρ n ps vs → RKs W H ρ n (dropP ps k) (dropK vs k)
  | [], _, h => by
    have h : _ = [] := h
    subst h
    exact rfl
  | (j, q) :: ps, _, ⟨w, r, e, h, t⟩ => by
    subst e
    have ih := RKs.drop (k := k) t
    unfold dropP
    rw [keyB_eq]
    by_cases hj : j = k
    · rw [decide_eq_true hj]
      dsimp only
      rw [dropK_pos (p := (j, w)) hj]
      exact ih
    · rw [decide_eq_false hj]
      dsimp only
      rw [dropK_neg (p := (j, w)) hj]
      exact ⟨w, _, rfl, h, ih⟩
theorem RKs.merge : ∀ {qs : List (Key × PV)} {us : List (Key × V)} {ps : List (Key × PV)} {vs : List (Key × V)}, RKs W H ρ n qs us → RKs W H ρ n ps vs → RKs W H ρ n (mergeP ps qs) (mergeK vs us)
  | [], _, ps, vs, h, g => by
    have h : _ = [] := h
    subst h
    exact g
  | (j, q) :: qs, _, ps, vs, ⟨w, r, e, h, t⟩, g => by
    subst e
    show RKs W H ρ n (mergeP (putP ps j q) qs) (mergeK (putK vs j w) r)
    exact RKs.merge t (g.put h)
mutual
theorem RV.chg (h : ∀ a vs, SqT W.K H a vs → SqT W.K H' a vs) : ∀ (p : PV) (v : V), RV W H ρ n p v → RV W H' ρ n p v
  | .non, _, x => x
  | .bl _, _, x => x
  | .int _, _, x => x
  | .str _, _, x => x
  | .tup xs, _, ⟨a, vs, e, s, r⟩ => ⟨a, vs, e, h a vs s, RVs.chg h xs vs r⟩
  | .ref _, _, x => x
  | .fn _, _, x => x
  | .thk, _, x => x
theorem RVs.chg (h : ∀ a vs, SqT W.K H a vs → SqT W.K H' a vs) : ∀ (ps : List PV) (vs : List V), RVs W H ρ n ps vs → RVs W H' ρ n ps vs
  | [], _, x => x
  | p :: ps, _, ⟨v, r, e, x, t⟩ => ⟨v, r, e, RV.chg h p v x, RVs.chg h ps r t⟩
end
theorem RKs.chgH (h : ∀ a vs, SqT W.K H a vs → SqT W.K H' a vs) : ∀ (ps : List (Key × PV)) (vs : List (Key × V)), RKs W H ρ n ps vs → RKs W H' ρ n ps vs
  | [], _, x => x
  | (k, p) :: ps, _, ⟨v, r, e, x, t⟩ => ⟨v, r, e, RV.chg h p v x, RKs.chgH h ps r t⟩
end
/-! ### a lock -/
def isLk : Option SO → Bool
  | some (.dlk _) => true
  | _ => false
/-- what is locked was so before, but at k -/
def okLk (k : Nat) (st st' : Sto) : Bool := (List.range st'.length).all fun i => Nat.beq i k || !isLk st'[i]? || isLk st[i]?
theorem okLk_at {k : Nat} {st st' : Sto} (h : okLk k st st' = true) {i : Nat} {kvs : List (Key × PV)} (e : st'[i]? = some (.dlk kvs)) (hi : i ≠ k) : ∃ ks, st[i]? = some (.dlk ks) := by
  unfold okLk at h
  have hl : i < st'.length := (List.getElem?_eq_some_iff.mp e).1
  have q := List.all_eq_true.mp h i (List.mem_range.mpr hl)
  rw [e] at q
  have hb : Nat.beq i k = false := by
    cases z : Nat.beq i k with
    | false => rfl
    | true => exact absurd (Nat.eq_of_beq_eq_true z) hi
  rw [hb] at q
  cases z : st[i]? with
  | none =>
    rw [z] at q
    cases q
  | some o =>
    rw [z] at q
    cases o with
    | dlk ks => exact ⟨ks, rfl⟩
    | lst _ => cases q
    | dct _ => cases q
    | fz _ => cases q
section
variable {W : Wd} {H H' : Hp} {ρ ρ' : Nat → Addr} {st st' : Sto} {k : Nat} {kvs ks : List (Key × PV)} {vs : List (Key × V)} {od : Obj}
theorem Stp.lock (r : RSt W H ρ st) (hk : st[k]? = some (.dct kvs)) (h1 : H (ρ k) = some (.dK vs)) (h2 : RKs W H ρ st.length kvs vs) (od : Obj) : Stp W H ρ st.length (upd H (ρ k) (.frz od (.dK vs))) ρ (st.set k (.dlk kvs)) :=
  .write0 r hk rfl ⟨vs, od, upd_same, RKs.mono (HX.mut h1 (fun _ z => nomatch z) fun _ _ z => nomatch z) (.refl _ _) (Nat.le_refl _) _ _ h2⟩
theorem Stp.unlock (r : RSt W H ρ st) (hk : st[k]? = some (.dct kvs)) (h1 : H (ρ k) = some (.dK vs)) (s : Stp W (upd H (ρ k) (.frz od (.dK vs))) ρ st.length H' ρ' st') (hk' : st'[k]? = some (.dlk ks)) (ok : okLk k st st' = true) :
    Stp W H ρ st.length (upd H' (ρ k) (.dK vs)) ρ' (st'.set k (.dct ks)) ∧ (∀ a us, SqT W.K H' a us → SqT W.K (upd H' (ρ k) (.dK vs)) a us) ∧ H' (ρ k) = some (.frz od (.dK vs)) := by
  have hkl : k < st.length := (List.getElem?_eq_some_iff.mp hk).1
  have hkl' : k < st'.length := (List.getElem?_eq_some_iff.mp hk').1
  have ea : ρ' k = ρ k := s.agr k hkl
  have hf : H' (ρ k) = some (.frz od (.dK vs)) := s.ext.frz _ _ _ upd_same
  have neA : ∀ b u, H' b = some u → u ≠ .frz od (.dK vs) → b ≠ ρ k := fun b u e hu z => by
    rw [z, hf] at e
    exact hu (Option.some.inj e).symm
  have sq : ∀ a us, SqT W.K H' a us → SqT W.K (upd H' (ρ k) (.dK vs)) a us := by
    rintro a us ((q | ⟨o, q⟩) | q)
    · exact .inl (.inl (by rw [upd_ne (neA _ _ q fun z => nomatch z)]; exact q))
    · exact .inl (.inr ⟨o, by rw [upd_ne (neA _ _ q fun z => by cases z)]; exact q⟩)
    · exact .inr q
  have get : ∀ (i : Nat) (o : SO), (st'.set k (.dct ks))[i]? = some o → (i = k ∧ o = .dct ks) ∨ (i ≠ k ∧ st'[i]? = some o) := fun i o e => by
    by_cases h : i = k
    · subst h
      rw [List.getElem?_set_self hkl'] at e
      exact .inl ⟨rfl, (Option.some.inj e).symm⟩
    · rw [List.getElem?_set_ne (Ne.symm h)] at e
      exact .inr ⟨h, e⟩
  -- a mutable one stands elsewhere
  have away : ∀ (i : Nat) (o : SO), st'[i]? = some o → o.mut = true → ρ' i ≠ ρ k := fun i o e m z => by
    have q := s.rs.obj i o e
    rw [z] at q
    cases o with
    | lst xs =>
      obtain ⟨us, q1, _⟩ := q
      rw [hf] at q1
      cases q1
    | dct xs =>
      obtain ⟨us, q1, _⟩ := q
      rw [hf] at q1
      cases q1
    | fz xs => cases m
    | dlk xs => cases m
  refine ⟨⟨⟨fun i j o u ei ej mo mu q => ?_, fun i o e => ?_, tabs_mut hf (fun _ z => nomatch z) (fun _ z => nomatch z) s.rs.tab⟩, ⟨fun b xs e => ?_, fun b o u e => ?_⟩, s.agr, by rw [List.length_set]; exact s.len⟩, sq, hf⟩
  · rcases get i o ei with ⟨a1, a2⟩ | ⟨hi, ei'⟩
    · rcases get j u ej with ⟨b1, b2⟩ | ⟨hj, ej'⟩
      · rw [a1, b1]
      · rw [a1, ea] at q
        exact absurd q.symm (away j u ej' mu)
    · rcases get j u ej with ⟨b1, b2⟩ | ⟨hj, ej'⟩
      · rw [b1, ea] at q
        exact absurd q (away i o ei' mo)
      · exact s.rs.inj i j o u ei' ej' mo mu q
  · rw [List.length_set]
    rcases get i o e with ⟨rfl, rfl⟩ | ⟨hi, e⟩
    · obtain ⟨us, o2, q1, q2⟩ := s.rs.obj _ _ hk'
      rw [ea] at q1 ⊢
      rw [hf] at q1
      cases q1
      exact ⟨vs, upd_same, RKs.chgH sq _ _ q2⟩
    · have q := s.rs.obj i o e
      cases o with
      | lst xs =>
        obtain ⟨us, q1, q2⟩ := q
        exact ⟨us, by rw [upd_ne (away i _ e rfl)]; exact q1, RVs.chg sq _ _ q2⟩
      | dct xs =>
        obtain ⟨us, q1, q2⟩ := q
        exact ⟨us, by rw [upd_ne (away i _ e rfl)]; exact q1, RKs.chgH sq _ _ q2⟩
      | fz xs =>
        obtain ⟨us, q1, q2⟩ := q
        refine ⟨us, ?_, RVs.chg sq _ _ q2⟩
        rcases q1 with ⟨o, q1⟩ | q1
        · exact .inl ⟨o, by rw [upd_ne (neA _ _ q1 fun z => by cases z)]; exact q1⟩
        · exact .inr q1
      | dlk xs =>
        obtain ⟨us, o2, q1, q2⟩ := q
        obtain ⟨zs, e0⟩ := okLk_at ok e hi
        have il : i < st.length := (List.getElem?_eq_some_iff.mp e0).1
        obtain ⟨us0, o0, w1, _⟩ := r.obj i _ e0
        have ne : ρ' i ≠ ρ k := fun z => by
          rw [s.agr i il] at z
          rw [z, h1] at w1
          cases w1
        exact ⟨us, o2, by rw [upd_ne ne]; exact q1, RKs.chgH sq _ _ q2⟩
  · have hb : b ≠ ρ k := fun z => by
      rw [z, h1] at e
      cases e
    rw [upd_ne hb]
    exact s.ext.tup b xs (by rw [upd_ne hb]; exact e)
  · have hb : b ≠ ρ k := fun z => by
      rw [z, h1] at e
      cases e
    rw [upd_ne hb]
    exact s.ext.frz b o u (by rw [upd_ne hb]; exact e)
end
end Mi
end
section
set_option maxRecDepth 100000
set_option maxHeartbeats 4000000
/-! MiDct2: dicts: combinators and rules -/
namespace Mi
open PySem PySem.Spec PyProof.Rows L2
theorem u1 {k : Nat} {A : Around} (r : Room k A) : A.units + 1 < cLine := by
  have h := u65 r
  omega
/-! ### what is never reached -/
def dNoE : DE := fun _ _ _ => .bad
def dNoT : DB := fun _ _ _ => .bad
section
variable {X : Cx} {J : Jx}
theorem xe_never {e : Expr} : PE X e (rdE J dNoE) := ⟨fun pins s σ H Q I h => by
  obtain ⟨_, _, _, _, _, g⟩ := h
  exact g.elim⟩
theorem xt_never {e : Expr} : PT X e (rdB J dNoT) := ⟨fun pins s σ H Q I h => by
  obtain ⟨_, _, _, _, _, g⟩ := h
  exact g.elim⟩
theorem yss_never {b : List Stmt} : PSs X b (rdS J dNever) := ⟨fun pins s σ H D I h => by
  obtain ⟨_, _, _, _, _, g⟩ := h
  exact g.elim⟩
end
/-! ### a dict of the store, read -/
def dctAt (st : Sto) (k : Nat) : Option (List (Key × PV)) := match st[k]? with
  | some (.dct kvs) => some kvs
  | some (.dlk kvs) => some kvs
  | _ => none
section
variable {W : Wd} {H : Hp} {ρ : Nat → Addr} {st : Sto}
theorem RSt.dct {k : Nat} {kvs : List (Key × PV)} (r : RSt W H ρ st) (h : dctAt st k = some kvs) : ∃ vs, Rd H (ρ k) (.dK vs) ∧ RKs W H ρ st.length kvs vs := by
  unfold dctAt at h
  split at h
  · rename_i ks e
    cases h
    obtain ⟨vs, h1, h2⟩ := r.obj k _ e
    exact ⟨vs, .inl h1, h2⟩
  · rename_i ks e
    cases h
    obtain ⟨vs, o, h1, h2⟩ := r.obj k _ e
    exact ⟨vs, .inr ⟨o, h1⟩, h2⟩
  · cases h
/-- what a dict holds -/
def dLook (x y : PV) (st : Sto) : Option (Option PV) := match x with
  | .ref k => match dctAt st k with
    | some kvs => match keyOf y with
      | some key => some (valP kvs key)
      | none => none
    | none => none
  | _ => none
theorem dLook_ok {p q : PV} {x y : V} {o : Option PV} (r : RSt W H ρ st) (hx : RV W H ρ st.length p x) (hy : RV W H ρ st.length q y) (e : dLook p q st = some o) : ∃ a v, x = .ref a ∧ DGet H a y v ∧ OV W H ρ st.length o v := by
  cases p with
  | ref k =>
    unfold dLook at e
    dsimp only at e
    cases e1 : dctAt st k with
    | none =>
      rw [e1] at e
      cases e
    | some kvs =>
      rw [e1] at e
      dsimp only at e
      cases e2 : keyOf q with
      | none =>
        rw [e2] at e
        cases e
      | some key =>
        rw [e2] at e
        cases e
        obtain ⟨_, rfl⟩ := hx
        obtain ⟨vs, h1, h2⟩ := r.dct e1
        exact ⟨_, valV vs key, rfl, .inl ⟨vs, key, h1, keyOf_ok hy e2, rfl⟩, h2.val⟩
  | _ => cases e
end
def pDix (x y : PV) (st : Sto) : Res PV := match dLook x y st with
  | some (some p) => .ok p st
  | _ => .bad
def pDin (x y : PV) (st : Sto) : Res PV := match dLook y x st with
  | some o => .ok (.bl o.isSome) st
  | none => .bad
def pDni (x y : PV) (st : Sto) : Res PV := match dLook y x st with
  | some o => .ok (.bl (!o.isSome)) st
  | none => .bad
def rDin : R2 := fun x y H Q => ∃ a o, y = .ref a ∧ DGet H a x o ∧ Q (.bl o.isSome) H
def rDni : R2 := fun x y H Q => ∃ a o, y = .ref a ∧ DGet H a x o ∧ Q (.bl (!o.isSome)) H
section
variable {X : Cx} {J : Jx} {a b : Expr} {da db : DE} {pos : Pos}
theorem xe_dix (J2 : XJ X J) (hu : X.A.units + 1 < cLine) (ha : PE X a (rdE J da)) (hb : PE X b (rdE J db)) (hs : NoSl b := by intro _ _; rfl) : PE X (.Subscript a b pos) (rdE J (dBin pDix da db)) :=
  PE.imp (pe_dget hu ha hb hs) fun σ H Q h => by
    refine rd_bind J2.st h fun ρ th env st v x H1 S rv g => rd_of S (gR.bind g fun w st2 H2 ρ2 y _ s2 r2 g2 => ?_)
    unfold pDix at g2
    split at g2
    · rename_i p e
      obtain ⟨a, v, rfl, h1, z, rfl, h2⟩ := dLook_ok s2.rs (s2.rv rv) r2 e
      exact ⟨a, z, rfl, h1, g2 H2 ρ2 z (.refl s2.rs) h2⟩
    · exact g2.elim
theorem op_din (hu : X.A.units + 1 < cLine) : OpR X (compareOp .In) rDin := by
  intro pins s σ H x y v u Q I rx ry h
  obtain ⟨a, o, rfl, g, q⟩ := h
  obtain rfl : u = Value.ref a := ry
  exact d_in hu I g rx fun s3 I3 => ⟨.bl o.isSome, H, I3, rfl, q⟩
theorem op_dni (hu : X.A.units + 1 < cLine) : OpR X (compareOp .NotIn) rDni := by
  intro pins s σ H x y v u Q I rx ry h
  obtain ⟨a, o, rfl, g, q⟩ := h
  obtain rfl : u = Value.ref a := ry
  exact d_notIn hu I g rx fun s3 I3 => ⟨.bl (!o.isSome), H, I3, rfl, q⟩
theorem isSome_of {W : Wd} {H : Hp} {ρ : Nat → Addr} {n : Nat} {o : Option PV} {v : Option V} (h : OV W H ρ n o v) : v.isSome = o.isSome := by
  cases o with
  | none =>
    have h : v = none := h
    rw [h]
    rfl
  | some p =>
    obtain ⟨z, e, _⟩ := h
    rw [e]
    rfl
theorem ok_din : OpOK J pDin rDin := by
  intro E H ρ st p q x y Q r hx hy g
  unfold pDin at g
  split at g
  · rename_i o e
    obtain ⟨a, v, rfl, h1, h2⟩ := dLook_ok r hy hx e
    exact ⟨a, v, rfl, h1, g H ρ _ (.refl r) (by rw [isSome_of h2]; rfl)⟩
  · exact g.elim
theorem ok_dni : OpOK J pDni rDni := by
  intro E H ρ st p q x y Q r hx hy g
  unfold pDni at g
  split at g
  · rename_i o e
    obtain ⟨a, v, rfl, h1, h2⟩ := dLook_ok r hy hx e
    exact ⟨a, v, rfl, h1, g H ρ _ (.refl r) (by rw [isSome_of h2]; rfl)⟩
  · exact g.elim
/-! ### d[k] = v, d.pop(k) -/
def pSetD (o i v : PV) (st : Sto) : Option Sto := match o, keyOf i with
  | .ref k, some key => match st[k]? with
    | some (.dct kvs) => if Nat.blt kvs.length 16777216 = true then some (st.set k (.dct (putP kvs key v))) else none
    | _ => none
  | _, _ => none
theorem Stp.setD {W : Wd} {H : Hp} {ρ : Nat → Addr} {st : Sto} {k : Nat} {kvs : List (Key × PV)} {ks : List (Key × PV)} {vs : List (Key × V)} (r : RSt W H ρ st) (hk : st[k]? = some (.dct kvs)) (h : RKs W H ρ st.length ks vs) : Stp W H ρ st.length (upd H (ρ k) (.dK vs)) ρ (st.set k (.dct ks)) := by
  obtain ⟨us, h1, _⟩ := r.obj k _ hk
  exact .write r hk rfl rfl ⟨vs, upd_same, RKs.mono (HX.mut h1 (fun _ z => nomatch z) fun _ _ z => nomatch z) (.refl _ _) (Nat.le_refl _) _ _ h⟩
theorem ok_setD : SetOK J pSetD rSetD := by
  intro H ρ st st' o i v x y z Q r ho hi hv e q
  unfold pSetD at e
  split at e
  · rename_i k key ek
    split at e
    · rename_i kvs e1
      split at e
      · rename_i hz
        cases e
        obtain ⟨_, rfl⟩ := ho
        obtain ⟨vs, h1, h2⟩ := r.obj k _ e1
        refine ⟨_, _, rfl, .inl ⟨vs, key, h1, keyOf_ok hi ek, ?_, rfl⟩, q _ (.setD r e1 (h2.put hv))⟩
        rw [← h2.length, sizeLine_eq]
        exact Nat.le_of_ble_eq_true hz
      · cases e
    · cases e
  · cases e
def mDpop (p q : PV) (st : Sto) : Res PV := match p, keyOf q with
  | .ref k, some key => match st[k]? with
    | some (.dct kvs) => match valP kvs key with
      | some v => .ok v (st.set k (.dct (dropP kvs key)))
      | none => .bad
    | _ => .bad
  | _, _ => .bad
def isDct (p : PV) (st : Sto) : Bool := match p with
  | .ref k => (dctAt st k).isSome
  | _ => false
def dPop1 (a b : DE) : DE := fun th env st => (a th env st).bind fun x st1 => if isDct x st1 = true then (b th env st1).bind fun y st2 => mDpop x y st2 else .bad
theorem isDct_ok {W : Wd} {H : Hp} {ρ : Nat → Addr} {st : Sto} {p : PV} {x : V} (r : RSt W H ρ st) (hx : RV W H ρ st.length p x) (h : isDct p st = true) : ∃ a, x = .ref a ∧ IsD H a := by
  unfold isDct at h
  split at h
  · rename_i k
    obtain ⟨_, rfl⟩ := hx
    obtain ⟨kvs, e⟩ := Option.isSome_iff_exists.mp h
    obtain ⟨vs, h1, _⟩ := r.dct e
    exact ⟨_, rfl, .inl ⟨vs, h1⟩⟩
  · cases h
theorem xe_dpop1 {apos cpos : Pos} (J2 : XJ X J) (ha : PE X a (rdE J da)) (hb : PE X b (rdE J db)) (m : M1 X a "pop" apos b cpos) : PE X (.Call (.Attribute a "pop" apos) [b] [] cpos) (rdE J (dPop1 da db)) :=
  PE.imp (pe_dpop1 ha hb m) fun σ H Q h => by
    refine rd_bind J2.st h fun ρ th env st v x H1 S rv g => ?_
    split at g
    · rename_i hd
      obtain ⟨d, rfl, hi⟩ := isDct_ok S.rs rv hd
      refine ⟨d, rfl, hi, rd_of S (gR.bind g fun w st2 H2 ρ2 y _ s2 r2 g2 => ?_)⟩
      have rv2 := s2.rv rv
      unfold mDpop at g2
      split at g2
      · rename_i k key ek
        split at g2
        · rename_i kvs e1
          split at g2
          · rename_i p ep
            obtain ⟨_, e2⟩ := rv2
            cases e2
            obtain ⟨vs, h1, h2⟩ := s2.rs.obj k _ e1
            have h3 := h2.val (k := key)
            rw [ep] at h3
            obtain ⟨z, h4, h5⟩ := h3
            refine ⟨vs, key, z, h1, keyOf_ok r2 ek, h4, ?_⟩
            have st3 := Stp.setD s2.rs e1 (h2.drop (k := key))
            exact g2 _ ρ2 z st3 (st3.rv h5)
          · exact g2.elim
        · exact g2.elim
      · exact g2.elim
    · exact g.elim
/-! ### calls -/
def fDictD (xs : List PV) (st : Sto) : Res PV := match xs with
  | [.ref k] => match dctAt st k with
    | some kvs => .ok (.ref st.length) (st ++ [.dct kvs])
    | none => .bad
  | _ => .bad
abbrev rDictD : List V → Hp → VK → Prop := fun xs H Q => ∃ (a : Addr) (kvs : List (Key × V)), xs = [.ref a] ∧ Rd H a (.dK kvs) ∧ ∀ p, H p = none → Q (.ref p) (upd H p (.dK kvs))
theorem Stp.newD {W : Wd} {H : Hp} {ρ : Nat → Addr} {st : Sto} {p : Addr} {kvs : List (Key × PV)} {vs : List (Key × V)} (r : RSt W H ρ st) (hp : H p = none) (h : RKs W H ρ st.length kvs vs) : Stp W H ρ st.length (upd H p (.dK vs)) (put ρ st.length p) (st ++ [.dct kvs]) :=
  .alloc r hp ⟨vs, upd_same, RKs.mono (HX.new hp) put_agr (Nat.le_succ _) _ _ h⟩ rfl
theorem ok_dictD : CallOK J fDictD rDictD := by
  intro E H ρ st ps xs Q r hx g
  unfold fDictD at g
  split at g
  · rename_i k
    split at g
    · rename_i kvs e
      obtain ⟨x, rfl, _, rfl⟩ := hx.one
      obtain ⟨vs, h1, h2⟩ := r.dct e
      exact ⟨_, vs, rfl, h1, fun p hp => g _ _ _ (.newD r hp h2) ⟨by simp, by rw [put_same]⟩⟩
    · exact g.elim
  · exact g.elim
/-! ### displays -/
def dPairs : List (DE × DE) → Dn (List (PV × PV))
  | [] => fun _ _ st => .ok [] st
  | (k, v) :: r => fun th env st => (k th env st).bind fun x st1 => (v th env st1).bind fun y st2 => (dPairs r th env st2).bind fun ps st3 => .ok ((x, y) :: ps) st3
def keysP : List (PV × PV) → Option (List (Key × PV))
  | [] => some []
  | (k, v) :: r => match keyOf k with
    | some key => match keysP r with
      | some ks => some ((key, v) :: ks)
      | none => none
    | none => none
def dDisp (l : List (DE × DE)) : DE := fun th env st => (dPairs l th env (st ++ [.dct []])).bind fun ps st1 => match st1[st.length]? with
  | some (.dct []) => match keysP ps with
    | some kvs => if Nat.ble kvs.length 15 = true then .ok (.ref st.length) (st1.set st.length (.dct (mergeP [] kvs))) else .bad
    | none => .bad
  | _ => .bad
def rdPs (J : Jx) (l : List (DE × DE)) : List (TE × TE) := l.map fun p => (rdE J p.1, rdE J p.2)
def RPP (W : Wd) (H : Hp) (ρ : Nat → Addr) (n : Nat) : List (PV × PV) → List (V × V) → Prop
  | [], vs => vs = []
  | (k, p) :: ps, vs => ∃ x v r, vs = (x, v) :: r ∧ RV W H ρ n k x ∧ RV W H ρ n p v ∧ RPP W H ρ n ps r
theorem RPP.keys {W : Wd} {H : Hp} {ρ : Nat → Addr} {n : Nat} : ∀ {ps : List (PV × PV)} {vs : List (V × V)} {ks : List (Key × PV)}, RPP W H ρ n ps vs → keysP ps = some ks → ∃ us : List (Key × V), vs = us.map (fun kv => (kV kv.1, kv.2)) ∧ RKs W H ρ n ks us
  | [], _, ks, h, e => by
    have h : _ = [] := h
    cases e
    subst h
    exact ⟨[], rfl, rfl⟩
  | (k, p) :: ps, _, ks, ⟨x, v, r, e1, h1, h2, h3⟩, e => by
    subst e1
    unfold keysP at e
    split at e
    · rename_i key ek
      split at e
      · rename_i ks' e2
        cases e
        obtain ⟨us, rfl, h4⟩ := RPP.keys h3 e2
        exact ⟨(key, v) :: us, by rw [List.map_cons, keyOf_ok h1 ek], v, us, rfl, h2, h4⟩
      · cases e
    · cases e
theorem rd_pairs (hs : J.tr.Stays J.W) : ∀ (l : List (DE × DE)) {ρ : Nat → Addr} {th : Th} {env : Env} {st : Sto} {σ : L2.St} {H : Hp} {Q : List (V × V) → Hp → Prop}, Sit J ρ th env st σ H →
    gR J.W (RPP J.W) (fun c dd H' => J.Wx c dd σ H') (dPairs l th env st) H ρ st.length Q → tPairs (rdPs J l) σ H Q
  | [], ρ, th, env, st, σ, H, Q, S, g => g H ρ [] (.refl S.rs) rfl
  | (k, v) :: r, ρ, th, env, st, σ, H, Q, S, g => by
    refine rd_of S (gR.bind g fun x st1 H1 ρ1 xv _ s1 r1 g1 => ?_)
    have S1 := S.step hs s1
    refine rd_of S1 (gR.bind g1 fun y st2 H2 ρ2 yv _ s2 r2 g2 => ?_)
    have S2 := S1.step hs s2
    refine rd_pairs hs r S2 (gR.bind g2 fun ps st3 H3 ρ3 pv _ s3 r3 g3 => ?_)
    exact g3 H3 ρ3 _ (.refl s3.rs) ⟨xv, yv, pv, rfl, s3.rv (s2.rv r1), s3.rv r2, r3⟩
theorem xp_nil : PPs X pos [] [] (rdPs J []) := pps_nil
theorem xp_cons {k v : Expr} {ks : List (Option Expr)} {vs : List Expr} {dk dv : DE} {l : List (DE × DE)} (hk : PE X k (rdE J dk)) (hv : PE X v (rdE J dv)) (hr : PPs X pos ks vs (rdPs J l)) : PPs X pos (some k :: ks) (v :: vs) (rdPs J ((dk, dv) :: l)) := pps_cons hk hv hr
theorem xe_disp {keys : List (Option Expr)} {values : List Expr} {l : List (DE × DE)} (J2 : XJ X J) (h : PPs X pos keys values (rdPs J l)) (hall : keys.all (·.isSome) = true) (hl : keys.length = values.length) (h0 : keys ≠ []) (h15 : keys.length ≤ 15) : PE X (.Dict keys values pos) (rdE J (dDisp l)) :=
  PE.imp (pe_disp h hall hl h0 h15) fun σ H Q h => by
    obtain ⟨ρ, th, env, st, S, g⟩ := h
    intro p hp
    have s0 : Stp J.W H ρ st.length (upd H p (.dK [])) (put ρ st.length p) (st ++ [.dct []]) := .newD S.rs hp rfl
    have hlen : (st ++ [SO.dct []]).length = st.length + 1 := by simp
    refine rd_pairs J2.st l (S.step J2.st s0) (gR.bind (gR.pre s0 g) fun ps st1 H1 ρ1 xs _ s1 r1 g1 => ?_)
    split at g1
    · rename_i e1
      split at g1
      · rename_i kvs e2
        split at g1
        · rename_i hz
          obtain ⟨us, hu, hk⟩ := RPP.keys r1 e2
          obtain ⟨vs, h1, h2⟩ := s1.rs.obj _ _ e1
          have h2 : vs = [] := h2
          subst h2
          have ea : ρ1 st.length = p := by rw [s1.agr _ (by rw [hlen]; exact Nat.lt_succ_self _), put_same]
          have s2 := Stp.setD s1.rs e1 (RKs.merge hk (show RKs J.W H1 ρ1 st1.length [] [] from rfl))
          rw [ea] at h1 s2
          refine ⟨h1, us, hu, by rw [← hk.length]; exact Nat.le_of_ble_eq_true hz, ?_⟩
          have hl1 := s1.len
          rw [hlen] at hl1
          exact g1 _ ρ1 _ s2 ⟨by rw [List.length_set]; omega, by rw [ea]⟩
        · exact g1.elim
      · exact g1.elim
    · exact g1.elim
end
/-! ### a walk under a lock -/
def unlk (k : Nat) (st0 : Sto) {α : Type} : Res α → Res α
  | .ok v st' => match st'[k]? with
    | some (.dlk ks) => if okLk k st0 st' = true then .ok v (st'.set k (.dct ks)) else .bad
    | _ => .bad
  | .exc e st' => .exc e st'
  | .bad => .bad
def lkAt (env : Env) (st : Sto) (i : Nat) : Option (Nat × List (Key × PV)) := match env[i]? with
  | some (some (.ref k)) => match st[k]? with
    | some (.dct kvs) => some (k, kvs)
    | _ => none
  | _ => none
/-- d, while the dict that slot i holds is locked -/
def dLkE (i : Nat) (d : DE) : DE := fun th env st => match lkAt env st i with
  | some (k, kvs) => unlk k st (d th env (st.set k (.dlk kvs)))
  | none => d th env st
theorem lkAt_eq {env : Env} {st : Sto} {i k : Nat} {kvs : List (Key × PV)} (h : lkAt env st i = some (k, kvs)) : env[i]? = some (some (.ref k)) ∧ st[k]? = some (.dct kvs) := by
  unfold lkAt at h
  split at h
  · rename_i k' e1
    split at h
    · rename_i ks e2
      cases h
      exact ⟨e1, e2⟩
    · cases h
  · cases h
section
variable {X : Cx} {J : Jx} {e : Expr} {de : DE} {pos : Pos}
theorem xe_lk {i : Nat} (J2 : XJ X J) (he : PE X e (rdE J de)) : PE X e (rdE J (dLkE i de)) := PE.byCases fun σ H Q h => by
  obtain ⟨ρ, th, env, st, S, g⟩ := h
  unfold dLkE at g
  split at g
  · rename_i k kvs e0
    obtain ⟨e1, e2⟩ := lkAt_eq e0
    obtain ⟨vs, h1, h2⟩ := S.rs.obj k _ e2
    refine ⟨_, pe_lock he, ρ k, .dK vs, h1, trivial, fun od => ?_⟩
    have s0 := Stp.lock S.rs e2 h1 h2 od
    have S0 := S.step J2.st s0
    have hl : (st.set k (.dlk kvs)).length = st.length := List.length_set
    refine rd_of S0 ?_
    cases r : de th env (st.set k (.dlk kvs)) with
    | bad =>
      rw [r] at g
      exact g.elim
    | exc ex st' =>
      rw [r] at g
      intro H' ρ' c d s rx
      rw [hl] at s
      exact g H' ρ' c d (Stp.trans s0 (by rw [hl]; exact s)) rx
    | ok v st' =>
      rw [r] at g
      intro H' ρ' x s rv
      rw [hl] at s
      unfold unlk at g
      dsimp only at g
      split at g
      · rename_i ks e3
        split at g
        · rename_i ok
          obtain ⟨s2, sq, hf⟩ := Stp.unlock S.rs e2 h1 s e3 ok
          refine ⟨hf, g _ ρ' x s2 ?_⟩
          rw [List.length_set]
          exact RV.chg sq _ _ rv
        · exact g.elim
      · exact g.elim
  · exact ⟨_, he, ρ, th, env, st, S, g⟩
/-! ### what is walked -/
theorem it_keysD {W : Wd} {H0 : Hp} {ρ0 : Nat → Addr} {n0 : Nat} {a : Addr} {o : Obj} {kvs : List (Key × PV)} {vs : List (Key × V)} (hf : H0 a = some (.frz o (.dK vs))) (hv : RKs W H0 ρ0 n0 kvs vs) : ItOK W H0 ρ0 n0 (.vals (kvs.map fun kv => keyP kv.1)) (Itk a o vs) := fun i H ρ st s => by
  have hl := hv.length
  have hf' := s.ext.frz _ _ _ hf
  refine ⟨fun p e => ?_, fun e => ⟨hf', by rw [e, List.length_map, hl]; exact Nat.le_refl _⟩⟩
  have ks : ∀ {ps : List (Key × PV)} {us : List (Key × V)}, RKs W H0 ρ0 n0 ps us → ps.map (·.1) = us.map (·.1) := fun {ps} => by
    induction ps with
    | nil =>
      intro us h
      have h : us = [] := h
      rw [h] <;> rfl
    | cons q ps ih =>
      intro us h
      obtain ⟨k, p⟩ := q
      obtain ⟨v, r, e, _, t⟩ := h
      subst e
      rw [List.map_cons, List.map_cons, ih t]
  rw [List.getElem?_map] at e
  cases ex : kvs[i]? with
  | none =>
    rw [ex] at e
    cases e
  | some q =>
    rw [ex] at e
    cases e
    have hil : i < kvs.length := (List.getElem?_eq_some_iff.mp ex).1
    refine ⟨⟨hf', by rw [← hl]; exact hil⟩, fun x H' ⟨e2, k, v, e3, e4⟩ => ?_⟩
    subst e2 e4
    have z := congrArg (fun l => l[i]?) (ks hv)
    simp only [List.getElem?_map, ex, e3, Option.map_some] at z
    cases z
    exact ⟨.refl s.rs, keyP_ok _⟩
theorem it_valsD {W : Wd} {H0 : Hp} {ρ0 : Nat → Addr} {n0 : Nat} {a : Addr} {o : Obj} {kvs : List (Key × PV)} {vs : List (Key × V)} (hf : H0 a = some (.frz o (.dK vs))) (hv : RKs W H0 ρ0 n0 kvs vs) : ItOK W H0 ρ0 n0 (.vals (kvs.map fun kv => kv.2)) (Itd a o vs) := fun i H ρ st s => by
  have hl := hv.length
  have hf' := s.ext.frz _ _ _ hf
  refine ⟨fun p e => ?_, fun e => ⟨hf', by rw [e, List.length_map, hl]; exact Nat.le_refl _⟩⟩
  have get : ∀ {ps : List (Key × PV)} {us : List (Key × V)} {j : Nat} {q : Key × PV}, RKs W H0 ρ0 n0 ps us → ps[j]? = some q → ∃ v, us[j]? = some (q.1, v) ∧ RV W H0 ρ0 n0 q.2 v := fun {ps} => by
    induction ps with
    | nil =>
      intro us j q h e
      simp at e
    | cons q0 ps ih =>
      intro us j q h e
      obtain ⟨k, p⟩ := q0
      obtain ⟨v, r, e1, h1, t⟩ := h
      subst e1
      cases j with
      | zero =>
        simp at e
        subst e
        exact ⟨v, rfl, h1⟩
      | succ j =>
        obtain ⟨w, h2, h3⟩ := ih (j := j) t (by simpa using e)
        exact ⟨w, by simpa using h2, h3⟩
  rw [List.getElem?_map] at e
  cases ex : kvs[i]? with
  | none =>
    rw [ex] at e
    cases e
  | some q =>
    rw [ex] at e
    cases e
    have hil : i < kvs.length := (List.getElem?_eq_some_iff.mp ex).1
    obtain ⟨w, h2, h3⟩ := get hv ex
    refine ⟨⟨hf', by rw [← hl]; exact hil⟩, fun x H' ⟨e2, k, e3⟩ => ?_⟩
    subst e2
    rw [h2] at e3
    cases e3
    exact ⟨.refl s.rs, s.rv h3⟩
def lkOf (v : PV) (st : Sto) : Option (List (Key × PV)) := match v with
  | .ref k => match st[k]? with
    | some (.dlk kvs) => some kvs
    | _ => none
  | _ => none
def dItK (d : DE) : DI := fun th env st => (d th env st).bind fun v st => match lkOf v st with
  | some kvs => .ok (.vals (kvs.map fun kv => keyP kv.1)) st
  | none => .bad
def dItV (d : DE) : DI := fun th env st => (d th env st).bind fun v st => match lkOf v st with
  | some kvs => .ok (.vals (kvs.map fun kv => kv.2)) st
  | none => .bad
theorem lkOf_ok {W : Wd} {H : Hp} {ρ : Nat → Addr} {st : Sto} {p : PV} {x : V} {kvs : List (Key × PV)} (r : RSt W H ρ st) (hx : RV W H ρ st.length p x) (h : lkOf p st = some kvs) : ∃ a o vs, x = .ref a ∧ H a = some (.frz o (.dK vs)) ∧ RKs W H ρ st.length kvs vs := by
  unfold lkOf at h
  split at h
  · rename_i k
    split at h
    · rename_i ks e
      cases h
      obtain ⟨_, rfl⟩ := hx
      obtain ⟨vs, o, h1, h2⟩ := r.obj k _ e
      exact ⟨_, o, vs, rfl, h1, h2⟩
    · cases h
  · cases h
theorem xi_keysD {tg : Expr} (J2 : XJ X J) (he : PE X e (rdE J de)) : PI X tg e (rdI J (dItK de)) := PI.imp (pi_keys he) fun σ H R h => by
  refine rd_bind J2.st h fun ρ th env st v x H1 S rv g => ?_
  split at g
  · rename_i kvs e1
    obtain ⟨a, o, vs, rfl, h1, h2⟩ := lkOf_ok S.rs rv e1
    exact ⟨a, o, rfl, .inl ⟨vs, h1, g H1 ρ _ (.refl S.rs) (it_keysD h1 h2)⟩⟩
  · exact g.elim
theorem xi_valsD {tg : Expr} {apos cpos : Pos} (J2 : XJ X J) (he : PE X e (rdE J de)) (hbase : attributeBase e "values" X.env (eval e X.env) = eval e X.env := by rfl) (hline : (apos.endLine == cpos.line) = true := by rfl) : PI X tg (.Call (.Attribute e "values" apos) [] [] cpos) (rdI J (dItV de)) :=
  PI.imp (pi_values he hbase hline) fun σ H R h => by
  refine rd_bind J2.st h fun ρ th env st v x H1 S rv g => ?_
  split at g
  · rename_i kvs e1
    obtain ⟨a, o, vs, rfl, h1, h2⟩ := lkOf_ok S.rs rv e1
    exact ⟨a, o, vs, rfl, h1, g H1 ρ _ (.refl S.rs) (it_valsD h1 h2)⟩
  · exact g.elim
end
end Mi
end
section
set_option maxRecDepth 100000
set_option maxHeartbeats 4000000
/-! MiDct3: dict comprehensions, sorted of a dict; the module's tuples and tables -/
namespace Mi
open PySem PySem.Spec PyProof.Rows L2
/-! ### {k: v for ..} -/
def dcT (ts : DB) (ek ev : DE) (th : Th) (D : Nat) (k : Sto → Res Unit) (env1 : Env) (st : Sto) : Res Unit := (ts th env1 st).bind fun b st => match b with
  | true => (ek th env1 st).bind fun x st => (ev th env1 st).bind fun y st => match st[D]?, keyOf x with
    | some (.dct acc), some key => if Nat.blt acc.length 16777216 = true then k (st.set D (.dct (putP acc key y))) else .bad
    | _, _ => .bad
  | false => k st
def dcV (t : Tg) (ts : DB) (ek ev : DE) (own : List Nat) (th : Th) (D : Nat) : List PV → Env → Sto → Res Unit
  | [], _, st => .ok () st
  | x :: xs, env, st => match t.set x env with
    | some env1 => dcT ts ek ev th D (fun st => dcV t ts ek ev own th D xs env st) env1 st
    | none => .bad
def dcL (t : Tg) (ts : DB) (ek ev : DE) (own : List Nat) (th : Th) (D : Nat) (g : Nat → Sto → Option (Option PV)) : Nat → Nat → Env → Sto → Res Unit
  | 0, _, _, _ => .bad
  | m + 1, i, env, st => match g i st with
    | some (some x) => match t.set x env with
      | some env1 => dcT ts ek ev th D (fun st => dcL t ts ek ev own th D g m (i + 1) env st) env1 st
      | none => .bad
    | some none => .ok () st
    | none => .bad
def dDc (it : DI) (t : Tg) (ts : DB) (ek ev : DE) (own : List Nat) : DE := fun th env st => (it th env st).bind fun d st => match d with
  | .vals xs => (dcV t ts ek ev own th st.length xs (wipeE env own) (st ++ [.dct []])).quiet.bind fun _ st' => .ok (.ref st.length) st'
  | .dyn m g => (dcL t ts ek ev own th st.length g m 0 (wipeE env own) (st ++ [.dct []])).quiet.bind fun _ st' => .ok (.ref st.length) st'
section
variable {X : Cx} {J : Jx}
theorem rd_turnD (J2 : XJ X J) {ts : DB} {ek ev : DE} {nD : Nat} {D : Addr} {k : Sto → Res Unit} {ρ0 ρ : Nat → Addr} {th : Th} {env1 : Env} {st0 st : Sto} {σ1 : L2.St} {H0 H : Hp} {Q : Unit → Hp → Prop} {Nx : Hp → Prop}
    (S : Sit J.blk ρ th env1 st σ1 H) (s0 : Stp J.W H0 ρ0 st0.length H ρ st) (hn : nD < st0.length) (hD : ρ0 nD = D)
    (g : gU J.W (dcT ts ek ev th nD k env1 st) H ρ st.length Q) (fin : ∀ H' ρ' st', Stp J.W H ρ st.length H' ρ' st' → gU J.W (k st') H' ρ' st'.length Q → Nx H') :
    rdB J.blk ts σ1 H fun b H3 => if b = true then rdE J.blk ek σ1 H3 fun y H4 => rdE J.blk ev σ1 H4 fun z H5 => ∃ kvs k, y = kV k ∧ H5 D = some (.dK kvs) ∧ kvs.length < sizeLine ∧ Nx (upd H5 D (.dK (putK kvs k z))) else Nx H3 := by
  refine rd_of S (gR.bind g fun b st2 H2 ρ2 x _ s2 r2 g2 => ?_)
  have r2 : x = b := r2
  subst r2
  cases x with
  | false =>
    rw [if_neg Bool.false_ne_true]
    exact fin H2 ρ2 st2 s2 g2
  | true =>
    rw [if_pos rfl]
    have S2 := Sit.step (J := J.blk) J2.st S s2
    refine rd_of S2 (gR.bind g2 fun x st3 H3 ρ3 xv _ s3 r3 g3 => ?_)
    refine rd_of (Sit.step (J := J.blk) J2.st S2 s3) (gR.bind g3 fun y st4 H4 ρ4 yv _ s4 r4 g4 => ?_)
    have sT := ((s0.trans s2).trans s3).trans s4
    split at g4
    · rename_i acc key ea ek2
      split at g4
      · rename_i hz
        obtain ⟨vs, h1, h2⟩ := s4.rs.obj _ _ ea
        have e1 : ρ4 nD = D := by rw [sT.agr nD hn, hD]
        have w := Stp.setD s4.rs ea (h2.put (k := key) r4)
        rw [e1] at h1 w
        refine ⟨vs, key, keyOf_ok r3 ek2, h1, ?_, fin _ _ _ (((s2.trans s3).trans s4).trans w) ?_⟩
        · rw [← h2.length, sizeLine_eq]
          exact Nat.le_of_ble_eq_true hz
        · exact gR.pre w g4
      · exact g4.elim
    · exact g4.elim
theorem rd_dcV (J2 : XJ X J) {xs : List PV} {It0 : It} {nD : Nat} {D : Addr} {t : Tg} {ts : DB} {ek ev : DE} {own : List Nat} {ρ0 : Nat → Addr} {th : Th} {env0 : Env} {st0 : Sto} {σ : L2.St} {H0 : Hp} {Q : Unit → Hp → Prop} (S0 : Sit J.blk ρ0 th env0 st0 (L2.wipe σ own) H0)
    (hI : ItOK J.W H0 ρ0 st0.length (.vals xs) It0) (hn : nD < st0.length) (hD : ρ0 nD = D) (ht : ∀ i ∈ t.slots, i ∈ own) (g0 : gU J.W (dcV t ts ek ev own th nD xs env0 st0) H0 ρ0 st0.length Q) :
    ∃ W : Nat → Nat → Hp → Prop, (∃ m, W 0 m H0) ∧ ∀ i m H, W i m H →
      (It0.stop i H ∧ Q () H) ∨ (It0.go i H ∧ ∃ Nx : Hp → Prop, (∀ H', Nx H' → ∃ m', m' < m ∧ W (i + 1) m' H') ∧ ∀ x H', It0.yld i H x H' → Tg.rd X.K t x (L2.wipe σ own) H' fun σ2 H2 => L2.wipe σ2 own = L2.wipe σ own ∧ rdB J.blk ts σ2 H2 fun b H3 =>
        if b = true then rdE J.blk ek σ2 H3 fun y H4 => rdE J.blk ev σ2 H4 fun z H5 => ∃ kvs k, y = kV k ∧ H5 D = some (.dK kvs) ∧ kvs.length < sizeLine ∧ Nx (upd H5 D (.dK (putK kvs k z))) else Nx H3) := by
  refine ⟨fun i m H => ∃ ρ st r, Sit J.blk ρ th env0 st (L2.wipe σ own) H ∧ Stp J.W H0 ρ0 st0.length H ρ st ∧ i ≤ xs.length ∧ xs.drop i = r ∧ m = r.length ∧ gU J.W (dcV t ts ek ev own th nD r env0 st) H ρ st.length Q,
    ⟨xs.length, ρ0, st0, xs, S0, .refl S0.rs, Nat.zero_le _, rfl, rfl, g0⟩, ?_⟩
  rintro i m H ⟨ρ, st, r, S, s, hi, hr, hm, g⟩
  obtain ⟨h1, h2⟩ := hI i H ρ st s
  cases r with
  | nil => exact .inl ⟨h2 (drop_nil hr hi), g H ρ () (.refl S.rs) trivial⟩
  | cons p r =>
    obtain ⟨e1, e2⟩ := drop_get hr
    have hlt : i < xs.length := (List.getElem?_eq_some_iff.mp e1).1
    obtain ⟨h3, h4⟩ := h1 p e1
    refine .inr ⟨h3, fun H' => ∃ ρ st, Sit J.blk ρ th env0 st (L2.wipe σ own) H' ∧ Stp J.W H0 ρ0 st0.length H' ρ st ∧ gU J.W (dcV t ts ek ev own th nD r env0 st) H' ρ st.length Q, fun H' ⟨ρ', st', S', s', g'⟩ => ?_, fun x H' y => ?_⟩
    · exact ⟨r.length, by rw [hm]; exact Nat.lt_succ_self _, ρ', st', r, S', s', hlt, e2, rfl, g'⟩
    · obtain ⟨s1, rv⟩ := h4 x H' y
      have g : gU J.W (match t.set p env0 with
        | some env1 => dcT ts ek ev th nD (fun st => dcV t ts ek ev own th nD r env0 st) env1 st
        | none => .bad) H ρ st.length Q := g
      split at g
      · rename_i env1 e
        rw [← J2.K]
        refine Tg.ok t p x env0 env1 _ _ rv (s1.renv S.env) e fun σ1 he1 sa => ⟨by rw [(sa.mono ht).wipe, wipe_idem], ?_⟩
        have S1 : Sit J.blk ρ th env1 st σ1 H' := S.to J2.st s1 he1
        refine rd_turnD J2 S1 (s.trans s1) hn hD (gR.pre s1 g) fun H2 ρ2 st2 s2 g2 => ⟨ρ2, st2, ?_, (s.trans s1).trans s2, g2⟩
        exact S.to J2.st (s1.trans s2) ((s1.trans s2).renv S.env)
      · exact g.elim
theorem rd_dcL (J2 : XJ X J) {gg : Nat → Sto → Option (Option PV)} {It0 : It} {nD : Nat} {D : Addr} {t : Tg} {ts : DB} {ek ev : DE} {own : List Nat} {ρ0 : Nat → Addr} {th : Th} {env0 : Env} {st0 : Sto} {σ : L2.St} {H0 : Hp} {Q : Unit → Hp → Prop} {m0 : Nat} (S0 : Sit J.blk ρ0 th env0 st0 (L2.wipe σ own) H0)
    (hI : ItOK J.W H0 ρ0 st0.length (.dyn m0 gg) It0) (hn : nD < st0.length) (hD : ρ0 nD = D) (ht : ∀ i ∈ t.slots, i ∈ own) (g0 : gU J.W (dcL t ts ek ev own th nD gg m0 0 env0 st0) H0 ρ0 st0.length Q) :
    ∃ W : Nat → Nat → Hp → Prop, (∃ m, W 0 m H0) ∧ ∀ i m H, W i m H →
      (It0.stop i H ∧ Q () H) ∨ (It0.go i H ∧ ∃ Nx : Hp → Prop, (∀ H', Nx H' → ∃ m', m' < m ∧ W (i + 1) m' H') ∧ ∀ x H', It0.yld i H x H' → Tg.rd X.K t x (L2.wipe σ own) H' fun σ2 H2 => L2.wipe σ2 own = L2.wipe σ own ∧ rdB J.blk ts σ2 H2 fun b H3 =>
        if b = true then rdE J.blk ek σ2 H3 fun y H4 => rdE J.blk ev σ2 H4 fun z H5 => ∃ kvs k, y = kV k ∧ H5 D = some (.dK kvs) ∧ kvs.length < sizeLine ∧ Nx (upd H5 D (.dK (putK kvs k z))) else Nx H3) := by
  refine ⟨fun i m H => ∃ ρ st, Sit J.blk ρ th env0 st (L2.wipe σ own) H ∧ Stp J.W H0 ρ0 st0.length H ρ st ∧ gU J.W (dcL t ts ek ev own th nD gg m i env0 st) H ρ st.length Q,
    ⟨m0, ρ0, st0, S0, .refl S0.rs, g0⟩, ?_⟩
  rintro i m H ⟨ρ, st, S, s, g⟩
  have hi := hI i H ρ st s
  cases m with
  | zero => exact g.elim
  | succ m =>
    have g : gU J.W (match gg i st with
      | some (some x) => match t.set x env0 with
        | some env1 => dcT ts ek ev th nD (fun st => dcL t ts ek ev own th nD gg m (i + 1) env0 st) env1 st
        | none => .bad
      | some none => .ok () st
      | none => .bad) H ρ st.length Q := g
    cases el' : gg i st with
    | none =>
      rw [el'] at g
      exact g.elim
    | some ex =>
      rw [el'] at g hi
      cases ex with
      | none =>
        exact .inl ⟨hi, g H ρ () (.refl S.rs) trivial⟩
      | some p =>
        obtain ⟨h3, h4⟩ := hi
        dsimp only at g
        refine .inr ⟨h3, fun H' => ∃ ρ st, Sit J.blk ρ th env0 st (L2.wipe σ own) H' ∧ Stp J.W H0 ρ0 st0.length H' ρ st ∧ gU J.W (dcL t ts ek ev own th nD gg m (i + 1) env0 st) H' ρ st.length Q, fun H' h => ⟨m, Nat.lt_succ_self _, h⟩, fun x H' y => ?_⟩
        obtain ⟨s1, rv⟩ := h4 x H' y
        cases ee : t.set p env0 with
        | none =>
          rw [ee] at g
          exact g.elim
        | some env1 =>
          rw [ee] at g
          dsimp only at g
          rw [← J2.K]
          refine Tg.ok t p x env0 env1 _ _ rv (s1.renv S.env) ee fun σ1 he1 sa => ⟨by rw [(sa.mono ht).wipe, wipe_idem], ?_⟩
          have S1 : Sit J.blk ρ th env1 st σ1 H' := S.to J2.st s1 he1
          refine rd_turnD J2 S1 (s.trans s1) hn hD (gR.pre s1 g) fun H2 ρ2 st2 s2 g2 => ⟨ρ2, st2, ?_, (s.trans s1).trans s2, g2⟩
          exact S.to J2.st (s1.trans s2) ((s1.trans s2).renv S.env)
theorem rd_dc (J2 : XJ X J) {di : DI} {t : Tg} {ts : DB} {ek ev : DE} {own : List Nat} (ht : ∀ i ∈ t.slots, i ∈ own) {σ : L2.St} {H : Hp} {Q : VK} (h : rdE J (dDc di t ts ek ev own) σ H Q) : tDc (rdI J di) (Tg.rd X.K t) (rdB J.blk ts) (rdE J.blk ek) (rdE J.blk ev) own σ H Q := by
  refine rd_bind J2.st h fun ρ th env st d It0 H1 S hI g => fun D hD => ?_
  have s1 : Stp J.W H1 ρ st.length (upd H1 D (.dK [])) (put ρ st.length D) (st ++ [.dct []]) := .newD S.rs hD rfl
  have len : (st ++ [SO.dct []]).length = st.length + 1 := by simp
  have S1 : Sit J.blk (put ρ st.length D) th (wipeE env own) (st ++ [.dct []]) (L2.wipe σ own) (upd H1 D (.dK [])) := S.blk.to (J := J.blk) J2.st s1 ((s1.renv S.env).wipe own)
  have hn : st.length < (st ++ [SO.dct []]).length := by omega
  split at g
  · rename_i xs
    refine rd_dcV (Q := fun _ H' => Q (.ref D) H') J2 S1 (fun i H' ρ' st' s' => hI i H' ρ' st' (s1.trans s')) hn put_same ht (gU_of hn put_same (gR.pre s1 g))
  · exact rd_dcL (Q := fun _ H' => Q (.ref D) H') J2 S1 (fun i H' ρ' st' s' => hI i H' ρ' st' (s1.trans s')) hn put_same ht (gU_of hn put_same (gR.pre s1 g))
theorem xe_dc {kx vx tg iter : Expr} {ifs : List Expr} {scope : Scope} {own : List (Str × Nat)} {pos : Pos} {di : DI} {t : Tg} {ts : DB} {ek ev : DE} (J2 : XK2 X J) (hi : PI X tg iter (rdI J di)) (ok : blkC X.N X.env.scope scope own = true) (hsl : (t.slots.all fun i => (own.map (·.2)).contains i) = true)
    (hg : ∀ (s : Shared) (H : Hp) (C : Addr) (cl : List (Str × Addr)) (fp : List Addr), PG (X.blk s H scope (compEnvC scope cl C X.env) fp) tg (Tg.rd X.K t)) (ht : ∀ (s : Shared) (H : Hp) (C : Addr) (cl : List (Str × Addr)) (fp : List Addr), PTs (X.blk s H scope (compEnvC scope cl C X.env) fp) ifs (rdB J.blk ts))
    (hk : ∀ (s : Shared) (H : Hp) (C : Addr) (cl : List (Str × Addr)) (fp : List Addr), PE (X.blk s H scope (compEnvC scope cl C X.env) fp) kx (rdE J.blk ek))
    (hv : ∀ (s : Shared) (H : Hp) (C : Addr) (cl : List (Str × Addr)) (fp : List Addr), PE (X.blk s H scope (compEnvC scope cl C X.env) fp) vx (rdE J.blk ev)) (hs : ∀ x, foldedSetIterable iter X.env x = pure x := by intro _; rfl) :
    PE X (.DictComp kx vx [⟨tg, iter, ifs, 0⟩] scope pos) (rdE J (dDc di t ts ek ev (own.map (·.2)))) :=
  PE.imp (pe_dc J2.cm J2.nd hi (blkOk_by ok) hg ht hk hv hs) fun σ H Q h => rd_dc J2.toXJ (fun i hi => by simpa using List.all_eq_true.mp hsl i hi) h
theorem xc_dc {kx vx tg iter : Expr} {ifs : List Expr} {scope : Scope} {own : List (Str × Nat)} {pos : Pos} {di : DI} {t : Tg} {ts : DB} {ek ev : DE} (J2 : XK2 X J) (hi : PI X tg iter (rdI J di)) (ok : blkC X.N X.env.scope scope own = true) (hsl : (t.slots.all fun i => (own.map (·.2)).contains i) = true)
    (hg : ∀ (s : Shared) (H : Hp) (C : Addr) (cl : List (Str × Addr)) (fp : List Addr), XK2 (X.blk s H scope (compEnvC scope cl C X.env) fp) J.blk → PG (X.blk s H scope (compEnvC scope cl C X.env) fp) tg (Tg.rd X.K t))
    (ht : ∀ (s : Shared) (H : Hp) (C : Addr) (cl : List (Str × Addr)) (fp : List Addr), XK2 (X.blk s H scope (compEnvC scope cl C X.env) fp) J.blk → PTs (X.blk s H scope (compEnvC scope cl C X.env) fp) ifs (rdB J.blk ts))
    (hk : ∀ (s : Shared) (H : Hp) (C : Addr) (cl : List (Str × Addr)) (fp : List Addr), XK2 (X.blk s H scope (compEnvC scope cl C X.env) fp) J.blk → PE (X.blk s H scope (compEnvC scope cl C X.env) fp) kx (rdE J.blk ek))
    (hv : ∀ (s : Shared) (H : Hp) (C : Addr) (cl : List (Str × Addr)) (fp : List Addr), XK2 (X.blk s H scope (compEnvC scope cl C X.env) fp) J.blk → PE (X.blk s H scope (compEnvC scope cl C X.env) fp) vx (rdE J.blk ev)) (hs : ∀ x, foldedSetIterable iter X.env x = pure x := by intro _; rfl) :
    PE X (.DictComp kx vx [⟨tg, iter, ifs, 0⟩] scope pos) (rdE J (dDc di t ts ek ev (own.map (·.2)))) :=
  xe_dc J2 hi ok hsl (fun s H C cl fp => hg s H C cl fp (J2.blk _ _ _ _ _)) (fun s H C cl fp => ht s H C cl fp (J2.blk _ _ _ _ _)) (fun s H C cl fp => hk s H C cl fp (J2.blk _ _ _ _ _)) (fun s H C cl fp => hv s H C cl fp (J2.blk _ _ _ _ _)) hs
end
/-! ### sorted of a dict whose keys are texts -/
def strKeys : List (Key × PV) → Option (List (List Nat))
  | [] => some []
  | (.inr x, _) :: r => match strKeys r with
    | some ss => some (x.cps.toList :: ss)
    | none => none
  | (.inl _, _) :: _ => none
def fSortD (xs : List PV) (st : Sto) : Res PV := match xs with
  | [.ref k] => match dctAt st k with
    | some kvs => match strKeys kvs with
      | some ss => if Nat.blt ss.length 64 = true then .ok (.ref st.length) (st ++ [.lst ((sortS leS ss).map .str)]) else .bad
      | none => .bad
    | none => .bad
  | _ => .bad
abbrev rSortD : List V → Hp → VK → Prop := fun xs H Q => ∃ (a : Addr) (kvs : List (Key × V)) (ks : List Str), xs = [.ref a] ∧ Rd H a (.dK kvs) ∧ kvs.map (·.1) = ks.map Sum.inr ∧ ks.length < 64 ∧
    ∀ ys p, ys.Perm ks → sortedS ys = true → H p = none → Q (.ref p) (upd H p (.lst (ys.map V.str)))
theorem strKeys_ok {W : Wd} {H : Hp} {ρ : Nat → Addr} {n : Nat} : ∀ {kvs : List (Key × PV)} {vs : List (Key × V)} {ss : List (List Nat)}, RKs W H ρ n kvs vs → strKeys kvs = some ss → vs.map (·.1) = (ss.map toS).map Sum.inr
  | [], _, ss, h, e => by
    have h : _ = [] := h
    cases e
    rw [h]
    rfl
  | (.inr x, p) :: r, _, ss, ⟨v, w, e1, _, t⟩, e => by
    subst e1
    unfold strKeys at e
    split at e
    · rename_i s2 e2
      cases e
      rw [List.map_cons, strKeys_ok t e2]
      rfl
    · cases e
  | (.inl i, p) :: r, _, ss, _, e => by cases e
theorem ok_sortD {J : Jx} : CallOK J fSortD rSortD := by
  intro E H ρ st ps xs Q r h g
  unfold fSortD at g
  split at g
  · rename_i k
    split at g
    · rename_i kvs e1
      split at g
      · rename_i ss e2
        split at g
        · rename_i hz
          obtain ⟨x, rfl, _, rfl⟩ := h.one
          obtain ⟨vs, h1, h2⟩ := r.dct e1
          refine ⟨_, vs, ss.map toS, rfl, h1, strKeys_ok h2 e2, by rw [List.length_map]; exact Nat.le_of_ble_eq_true hz, fun zs p hp1 hp2 hp => ?_⟩
          have e : zs.map ofS = sortS leS ss := by
            refine sortS_eq leS_tot leS_trans leS_anti ?_ ?_
            · have := hp1.map ofS
              rw [List.map_map] at this
              have e3 : (ofS ∘ toS) = id := by
                funext z
                show (z.toArray).toList = z
                simp
              rw [e3, List.map_id] at this
              exact this
            · rw [List.pairwise_map]
              cases zs with
              | nil => exact .nil
              | cons z zs => exact risingS_pw z zs hp2
          have e4 : zs = (sortS leS ss).map toS := by
            rw [← e, List.map_map]
            have : (toS ∘ ofS) = id := by
              funext z
              exact toS_ofS z
            rw [this, List.map_id]
          subst e4
          exact g _ _ _ (.newL r hp (rvs_of_strs _)) ⟨by simp, by rw [put_same]⟩
        · exact g.elim
      · exact g.elim
    · exact g.elim
  · exact g.elim
theorem call_sortDR {X : Cx} (hc : X.calm = true) : CallR X (.builtin "sorted") rSortD := call_sortedD hc
theorem call_dictDR {X : Cx} : CallR X (.type "dict") rDictD := call_dictD
/-! ### the module's tuples -/
mutual
def litB (K : PySem.W.Frag) : PV → Value → Bool
  | .non, u => match u with
    | .none => true
    | _ => false
  | .bl b, u => match u with
    | .bool c => b == c
    | _ => false
  | .int i, u => match u with
    | .int j _ => decide (i = j)
    | _ => false
  | .str s, u => match u with
    | .str x _ => natsB s x.cps.toList
    | _ => false
  | .tup ps, u => match u with
    | .ref a => match K.lookup a with
      | some ⟨.type c, _, .seq its _, _⟩ => decide (c = "tuple") && Nat.ble its.size 16777216 && litsB K ps its.toList
      | _ => false
    | _ => false
  | _, _ => false
def litsB (K : PySem.W.Frag) : List PV → List Value → Bool
  | [], us => us.isEmpty
  | p :: ps, us => match us with
    | u :: us => litB K p u && litsB K ps us
    | [] => false
end
mutual
theorem litB_ok {W : Wd} {H : Hp} {ρ : Nat → Addr} {n : Nat} : ∀ (p : PV) (u : Value), litB W.K p u = true → ∃ v, RelV v u ∧ RV W H ρ n p v
  | .non, u, h => by
    cases u <;> simp only [litB] at h <;> try (cases h; done)
    exact ⟨.non, rfl, rfl⟩
  | .bl b, u, h => by
    cases u <;> simp only [litB] at h <;> try (cases h; done)
    rename_i c
    have e : b = c := by simpa using h
    subst e
    exact ⟨.bl b, rfl, rfl⟩
  | .int i, u, h => by
    cases u <;> simp only [litB] at h <;> try (cases h; done)
    rename_i j t
    have e : i = j := of_decide_eq_true h
    subst e
    exact ⟨.int i, ⟨t, rfl⟩, rfl⟩
  | .str s, u, h => by
    cases u <;> simp only [litB] at h <;> try (cases h; done)
    rename_i x t
    have e : s = x.cps.toList := natsB_iff.mp h
    subst e
    exact ⟨.str x, ⟨t, rfl⟩, rfl⟩
  | .tup ps, u, h => by
    cases u <;> simp only [litB] at h <;> try (cases h; done)
    rename_i a
    cases q : W.K.lookup a with
    | none =>
      rw [q] at h
      cases h
    | some o =>
      rw [q] at h
      obtain ⟨oc, od, dt, osl⟩ := o
      cases oc <;> try (cases h; done)
      rename_i c
      cases dt <;> try (cases h; done)
      rename_i its m
      dsimp only at h
      rw [Bool.and_eq_true, Bool.and_eq_true] at h
      obtain ⟨⟨h1, h2⟩, h3⟩ := h
      have h1 : c = "tuple" := of_decide_eq_true h1
      subst h1
      obtain ⟨vs, h4, h5⟩ := litsB_ok ps its.toList h3
      exact ⟨.ref a, rfl, a, vs, rfl, .inr ⟨_, its, m, q, rfl, rfl, by rw [sizeLine_eq]; exact Nat.le_of_ble_eq_true h2, h4⟩, h5⟩
  | .ref _, u, h => by simp only [litB] at h <;> cases h
  | .fn _, u, h => by simp only [litB] at h <;> cases h
  | .thk, u, h => by simp only [litB] at h <;> cases h
theorem litsB_ok {W : Wd} {H : Hp} {ρ : Nat → Addr} {n : Nat} : ∀ (ps : List PV) (us : List Value), litsB W.K ps us = true → ∃ vs, Vals vs us ∧ RVs W H ρ n ps vs
  | [], us, h => by
    cases us with
    | nil => exact ⟨[], .nil, rfl⟩
    | cons u us => simp [litsB] at h
  | p :: ps, us, h => by
    cases us with
    | nil => simp [litsB] at h
    | cons u us =>
      simp only [litsB, Bool.and_eq_true] at h
      obtain ⟨v, a1, a2⟩ := litB_ok p u h.1
      obtain ⟨vs, b1, b2⟩ := litsB_ok ps us h.2
      exact ⟨v :: vs, .cons a1 b1, v, vs, rfl, a2, b2⟩
end
def gtB (K : PySem.W.Frag) (x : Str) (ps : List PV) : Bool := match PySem.W.nsIn K mainGlobals x with
  | some (some u) => litB K (.tup ps) u
  | _ => false
theorem gtB_ok {K : PySem.W.Frag} {h : Heap} {mg : Str → Option Value} (X : K.In h) (G : h.Ns mainGlobals mg) {x : Str} {ps : List PV} (c : gtB K x ps = true) : ∃ u, mg x = some u ∧ litB K (.tup ps) u = true := by
  unfold gtB at c
  split at c
  · rename_i u e
    exact ⟨u, PySem.W.mg_of X G e, c⟩
  · cases c
section
variable {X : Cx} {J : Jx} {pos : Pos}
theorem xe_gtup {x : Str} {ps : List PV} (J2 : XJ X J) (hg : Gl X x) (hm : ∃ u, X.mg x = some u ∧ litB X.K (.tup ps) u = true) (hd : (x == ("__debug__" : Str)) = false := by decide) : PE X (.Name x pos) (rdE J (dC (.tup ps))) := PE.byCases fun σ H Q h => by
  obtain ⟨u, e, c⟩ := hm
  obtain ⟨ρ, th, env, st, S, g⟩ := h
  rw [← J2.K] at c
  obtain ⟨v, h1, h2⟩ := litB_ok (W := J.W) (H := H) (ρ := ρ) (n := st.length) _ _ c
  exact ⟨_, pe_glob hg e h1 hd, g H ρ v (.refl S.rs) h2⟩
/-! ### the module's tables -/
def tabV : List (List Nat × PV) → List Nat → Option PV
  | [], _ => none
  | (k, p) :: r, x => match natsB k x with
    | true => some p
    | false => tabV r x
def pTab (tb : List (List Nat × PV)) (x : PV) (st : Sto) : Res PV := match x with
  | .str s => match tabV tb s with
    | some p => .ok p st
    | none => .bad
  | _ => .bad
/-- the values of the table at x -/
def gdB (K : PySem.W.Frag) (a : Addr) (tb : List (List Nat × PV)) : Bool := tb.all fun q => match PySem.W.nsIn K a (toS q.1) with
  | some (some u) => litB K q.2 u
  | _ => false
theorem tabV_mem {s : List Nat} {p : PV} : ∀ {tb : List (List Nat × PV)}, tabV tb s = some p → (s, p) ∈ tb
  | [], h => by cases h
  | (k, q) :: r, h => by
    unfold tabV at h
    split at h
    · rename_i e
      cases h
      rw [natsB_iff.mp e]
      exact List.mem_cons_self
    · exact List.mem_cons_of_mem _ (tabV_mem h)
theorem xe_tab {x : Str} {tb : List (List Nat × PV)} {b : Expr} {db : DE} {p pos : Pos} (J2 : XJ X J) (hg : Gl X x) {a : Addr} (hm : X.mg x = some (.ref a)) (D : ∃ es n, KDict X.K X.w a es n) (hv : gdB X.K a tb = true) (hb : PE X b (rdE J db)) (hd : (x == ("__debug__" : Str)) = false := by decide) (hs : PlainIx b := by intro _ _; rfl) :
    PE X (.Subscript (.Name x p) b pos) (rdE J (dUn (pTab tb) db)) := PE.imp (pe_ix ix_kdict (pe_glob hg hm (show RelV (.ref a) (.ref a) from rfl) hd) hb hs) fun σ H Q h => by
  show rdE J db σ H _
  refine rd_bind J2.st h fun ρ th env st v y H1 S rv g => ?_
  cases v with
  | str s =>
    unfold pTab at g
    dsimp only at g
    split at g
    · rename_i q e
      have h1 := List.all_eq_true.mp hv _ (tabV_mem e)
      dsimp only at h1
      split at h1
      · rename_i u e2
        rw [← J2.K] at h1
        obtain ⟨z, r1, r2⟩ := litB_ok (W := J.W) (H := H1) (ρ := ρ) (n := st.length) _ _ h1
        obtain ⟨es, n, D⟩ := D
        have rv : y = V.str (toS s) := rv
        exact ⟨a, toS s, z, rfl, rv, ⟨es, n, u, D.at_, D.lit, e2, r1⟩, g H1 ρ z (.refl S.rs) r2⟩
      · cases h1
    · exact g.elim
  | _ => exact g.elim
end
end Mi
end
section
set_option maxRecDepth 100000
set_option maxHeartbeats 4000000
/-! MiGcE: what an expression, what a block leaves behind is forgotten; clauses that nothing takes -/
namespace Mi
open PySem PySem.Spec PyProof.Rows L2 LamX
def dGcE (d : DE) : DE := fun th env st => gcR st.length (d th env st)
section
variable {X : Cx} {J : Jx}
theorem xe_gc {e : Expr} {d : DE} (h : PE X e (rdE J d)) : PE X e (rdE J (dGcE d)) := PE.imp h fun σ H Q h => by
  obtain ⟨ρ, th, env, st, S, g⟩ := h
  exact ⟨ρ, th, env, st, S, gcF_ref (fun _ st => d th env st) J.W _ H ρ st [] [] Q S.rs rfl g⟩
/-- the slots whose values stand below n -/
def cutE (n : Nat) (env : Mi.Env) : Mi.Env := env.map fun o => match o with
  | some p => match clV n p with
    | true => some p
    | false => none
  | none => none
def gcS (d : DS) : DS := fun th env st => match d th env st with
  | .nx env' st' => if (clS st.length (st'.take st.length) && Nat.ble st.length st'.length) = true then .nx (cutE st.length env') (st'.take st.length) else .nx env' st'
  | .ct env' st' => if (clS st.length (st'.take st.length) && Nat.ble st.length st'.length) = true then .ct (cutE st.length env') (st'.take st.length) else .ct env' st'
  | r => r
theorem REnv.cut {W : Wd} {H : Hp} {ρ : Nat → Addr} {n n' : Nat} {env : Mi.Env} {σ : L2.St} (h : REnv W H ρ n' env σ) : REnv W H ρ n (cutE n env) σ := by
  refine ⟨by unfold cutE; rw [List.length_map]; exact h.len, fun i p e => ?_⟩
  unfold cutE at e
  rw [List.getElem?_map] at e
  cases q : env[i]? with
  | none =>
    rw [q] at e
    cases e
  | some o =>
    rw [q] at e
    cases o with
    | none => cases e
    | some p2 =>
      simp only [Option.map_some] at e
      split at e
      · rename_i c
        cases e
        obtain ⟨v, h1, h2⟩ := h.get i _ q
        exact ⟨v, h1, RV.cut _ _ h2 c⟩
      · cases e
theorem gcS_ok {W : Wd} {H H' : Hp} {ρ ρ' : Nat → Addr} {n : Nat} {st' : Sto} {env' : Mi.Env} {σ' : L2.St} (hc : (clS n (st'.take n) && Nat.ble n st'.length) = true) (s : Stp W H ρ n H' ρ' st') (r : REnv W H' ρ' st'.length env' σ') :
    Stp W H ρ n H' ρ' (st'.take n) ∧ REnv W H' ρ' (st'.take n).length (cutE n env') σ' := by
  rw [Bool.and_eq_true] at hc
  have hl : (st'.take n).length = n := by
    rw [List.length_take]
    exact Nat.min_eq_left (Nat.le_of_ble_eq_true hc.2)
  refine ⟨Stp.cut (g := st'.drop n) (by rw [List.take_append_drop]; exact s) (by rw [hl]; exact hc.1) (by rw [hl]; exact Nat.le_refl _), ?_⟩
  rw [hl]
  exact r.cut
theorem yss_gc {b : List Stmt} {d : DS} (h : PSs X b (rdS J d)) : PSs X b (rdS J (gcS d)) := PSs.imp h fun D σ H h => by
  obtain ⟨ρ, th, env, st, S, g⟩ := h
  refine ⟨ρ, th, env, st, S, ?_⟩
  unfold gcS at g
  cases e : d th env st with
  | nx env' st' =>
    rw [e] at g
    dsimp only at g
    split at g
    · rename_i hc
      intro H' ρ' σ' s r
      obtain ⟨a, b⟩ := gcS_ok hc s r
      exact g H' ρ' σ' a b
    · exact g
  | ct env' st' =>
    rw [e] at g
    dsimp only at g
    split at g
    · rename_i hc
      intro H' ρ' σ' s r
      obtain ⟨a, b⟩ := gcS_ok hc s r
      exact g H' ρ' σ' a b
    · exact g
  | rt v st' =>
    rw [e] at g
    exact g
  | bk env' st' =>
    rw [e] at g
    exact g
  | exc x env' st' =>
    rw [e] at g
    exact g
  | bad =>
    rw [e] at g
    exact g
end
/-! ### a new list is kept, what was made besides is forgotten -/
def gcNR (n : Nat) (r : Res PV) : Res PV := match r with
  | .ok (.ref k) s => match s[k]? with
    | some (.lst xs) => if (Nat.ble n k && clVs n xs && clS n (s.take n) && Nat.ble n s.length) = true then .ok (.ref n) (s.take n ++ [.lst xs]) else .bad
    | _ => .bad
  | .exc e s => .exc e s
  | _ => .bad
def gcN (F : Fn) : Fn := fun ps st => gcNR st.length (F ps st)
theorem Stp.keep1 {W : Wd} {H H' : Hp} {ρ ρ' : Nat → Addr} {n k : Nat} {s : Sto} {xs : List PV} (p : Stp W H ρ n H' ρ' s) (hk : s[k]? = some (.lst xs)) (hn : n ≤ k) (hx : clVs n xs = true) (hs : clS n (s.take n) = true) (hl : n ≤ s.length) :
    Stp W H ρ n H' (put ρ' n (ρ' k)) (s.take n ++ [.lst xs]) := by
  have len : (s.take n).length = n := by
    rw [List.length_take]
    exact Nat.min_eq_left hl
  have q : Stp W H ρ n H' ρ' (s.take n) := Stp.cut (g := s.drop n) (by rw [List.take_append_drop]; exact p) (by rw [len]; exact hs) (by rw [len]; exact Nat.le_refl _)
  have get : ∀ (i : Nat) (o : SO), (s.take n ++ [SO.lst xs])[i]? = some o → (i < n ∧ (s.take n)[i]? = some o ∧ s[i]? = some o ∧ put ρ' n (ρ' k) i = ρ' i) ∨ (i = n ∧ o = .lst xs) := fun i o e => by
    by_cases h : i < n
    · rw [List.getElem?_append_left (by rw [len]; exact h)] at e
      refine .inl ⟨h, e, ?_, put_agr i h⟩
      rw [List.getElem?_take] at e
      rw [if_pos h] at e
      exact e
    · have h2 : i < (s.take n ++ [SO.lst xs]).length := (List.getElem?_eq_some_iff.mp e).1
      rw [List.length_append, len, List.length_singleton] at h2
      have h3 : i = n := by omega
      subst h3
      rw [List.getElem?_append_right (by rw [len]; exact Nat.le_refl _), len, Nat.sub_self] at e
      exact .inr ⟨rfl, (Option.some.inj e).symm⟩
  have ag : Agr n ρ' (put ρ' n (ρ' k)) := put_agr
  refine ⟨⟨fun i j o u ei ej mo mu e => ?_, fun i o e => ?_, q.rs.tab⟩, p.ext, fun i hi => by rw [put_agr i hi]; exact p.agr i hi, by rw [List.length_append, len]; exact Nat.le_add_right _ _⟩
  · rcases get i o ei with ⟨h1, _, h2, h3⟩ | ⟨h1, h2⟩
    · rcases get j u ej with ⟨g1, _, g2, g3⟩ | ⟨g1, g2⟩
      · rw [h3, g3] at e
        exact p.rs.inj i j o u h2 g2 mo mu e
      · rw [h3, g1, put_same] at e
        have z := p.rs.inj i k o _ h2 hk mo rfl e
        omega
    · rcases get j u ej with ⟨g1, _, g2, g3⟩ | ⟨g1, g2⟩
      · rw [g3, h1, put_same] at e
        have z := p.rs.inj k j _ u hk g2 rfl mu e
        omega
      · rw [h1, g1]
  · have L : (s.take n ++ [SO.lst xs]).length = n + 1 := by rw [List.length_append, len, List.length_singleton]
    rw [L]
    rcases get i o e with ⟨h1, h0, h2, h3⟩ | ⟨h1, h2⟩
    · rw [h3]
      have r := q.rs.obj i o h0
      rw [len] at r
      exact r.mono (HX.refl _) ag (Nat.le_succ _) fun u _ _ z => z
    · rw [h1, h2, put_same]
      obtain ⟨vs, a1, a2⟩ := p.rs.obj k _ hk
      exact ⟨vs, a1, RVs.mono (HX.refl _) ag (Nat.le_succ _) _ _ (RVs.cut _ _ a2 hx)⟩
theorem gcN_ref (F : Fn) : Ref (gcN F) F := by
  intro W E H ρ st ps vs Q r hp g
  unfold gcN at g
  cases e : F ps st with
  | bad =>
    rw [e] at g
    exact g.elim
  | exc x s =>
    rw [e] at g
    exact g
  | ok v s =>
    rw [e] at g
    cases v with
    | ref k =>
      unfold gcNR at g
      dsimp only at g
      split at g
      · rename_i xs hk
        split at g
        · rename_i hc
          simp only [Bool.and_eq_true] at hc
          obtain ⟨⟨⟨h1, h2⟩, h3⟩, h4⟩ := hc
          intro H' ρ' x s' hx
          obtain ⟨_, rfl⟩ := hx
          have h5 := Stp.keep1 s' hk (Nat.le_of_ble_eq_true h1) h2 h3 (Nat.le_of_ble_eq_true h4)
          refine g H' _ _ h5 ⟨?_, by rw [put_same]⟩
          rw [List.length_append, List.length_take, Nat.min_eq_left (Nat.le_of_ble_eq_true h4)]
          exact Nat.lt_succ_self _
        · exact g.elim
      · exact g.elim
    | _ => exact g.elim
/-! ### clauses -/
def hX : Hd := fun _ _ => .bad
section
variable {Z : Cx} {W : Wd} {σ0 : L2.St} {sub : Nat → Nat → Bool} {hs : List (Nat × Hd)} {hds : List ExceptHandler} {l : List Cl} {C : Addr} {cn : Str} {m : Nat}
/-- a clause that nothing takes -/
theorem mx_no {en : Option Str} {io : Option Nat} {b : Stmt} {bs : List Stmt} {p q : Pos} (hn : Names Z cn (.ref C)) (hno : ∀ n, sub n m = false) (hx : ∀ n c, W.ca n = some c → PySem.W.exmOne Z.K c (.ref C) = some (sub n m)) (hnm : NameOk Z en io) (r : ∃ l, MixOk Z hds l ∧ ClsOk Z.K W σ0 sub hs l) :
    ∃ l, MixOk Z (.ExceptHandler (some (.Name cn p)) en (b :: bs) q :: hds) l ∧ ClsOk Z.K W σ0 sub ((m, hX) :: hs) l := by
  obtain ⟨l, r1, r2⟩ := r
  refine ⟨(.ref C, io, fun _ _ _ _ _ _ => False) :: l, .cons hn hnm (fun a o cls d pn _ _ => ⟨fun pins s σ H D I h => h.elim⟩) r1, hx, fun a cls d D H ρ st e hs _ _ _ _ => ?_, r2⟩
  rw [hno] at hs
  cases hs
end
end Mi
end
section
set_option maxRecDepth 100000
set_option maxHeartbeats 4000000
/-! MiFin: runs in parts, computed by the kernel -/
namespace Mi
open PySem PySem.Spec PyProof.Rows L2
def RS.env : RS → Mi.Env
  | .nx e _ => e
  | _ => []
def RS.sto : RS → Sto
  | .nx _ s => s
  | _ => []
/-- it ends in True: the store's first object -/
def endT : RS → Option SO
  | .rt (.bl true) (o :: _) => some o
  | _ => none
/-- the place that slot i names -/
def kAt (r : RS) (i : Nat) : Nat := match (RS.env r)[i]? with
  | some (some (.ref k)) => k
  | _ => 0
/-- the list that slot i names -/
def menuAt (r : RS) (i : Nat) : List PV := (lstAt (RS.sto r) (kAt r i)).getD []
def isNx : RS → Bool
  | .nx _ _ => true
  | _ => false
theorem nx_of {r : RS} (h : isNx r = true) : r = .nx r.env r.sto := by
  cases r <;> first | rfl | cases h
theorem endT_ok {r : RS} {o : SO} (h : endT r = some o) : ∃ s, r = .rt (.bl true) (o :: s) := by
  unfold endT at h
  split at h
  · cases h
    exact ⟨_, rfl⟩
  · cases h
theorem dSeq_assoc (A B C : DS) (th : Th) (env : Mi.Env) (st : Sto) : dSeq A (dSeq B C) th env st = dSeq (dSeq A B) C th env st := by
  unfold dSeq
  cases A th env st <;> rfl
theorem dSeq_nx {A B : DS} {th : Th} {env : Mi.Env} {st : Sto} {e : Mi.Env} {s : Sto} (h : A th env st = .nx e s) : dSeq A B th env st = B th e s := by
  unfold dSeq
  rw [h]
/-- all of a range -/
theorem map_all {α : Type} {f : Nat → α} {n : Nat} {x : α} (h : (List.range n).map f = List.replicate n x) {i : Nat} (hi : i < n) : f i = x := by
  have e := congrArg (fun l => l[i]?) h
  simp only [List.getElem?_map, List.getElem?_range hi, Option.map_some, List.getElem?_replicate, if_pos hi] at e
  exact Option.some.inj e
/-- the run goes on behind a drawn value: slot i holds it, the well (at 1) has changed -/
def goOn (r : RS) (i : Nat) (v : PV) (a b c : Int) (d : DS) : RS := d noTh ((RS.env r).set i (some v)) ((RS.sto r).set 1 (.lst [.int a, .int b, .int c]))
end Mi
end
section
set_option maxRecDepth 100000
set_option maxHeartbeats 4000000
/-! MiSet: *x in displays; len(set(x)); tuple(range(..)) -/
namespace Mi
open PySem PySem.Spec PyProof.Rows L2
/-! ### *x -/
def dStar (a : DE) (r : DL) : DL := fun th env st => (a th env st).bind fun x st1 => match seqOf st1 x with
  | some xs => (r th env st1).bind fun ys st2 => .ok (xs ++ ys) st2
  | none => .bad
section
variable {X : Cx} {J : Jx} {e : Expr} {es : List Expr} {de : DE} {dl : DL}
theorem xa_star {p : Pos} (J2 : XK2 X J) (ha : PE X e (rdE J de)) (hr : PA X es (rdL J dl)) : PA X (.Starred e p :: es) (rdL J (dStar de dl)) :=
  PA.imp (StX.pa_star ha hr) fun σ H Q h => by
    refine rd_bind J2.st h fun ρ th env st v x H1 S rv g => ?_
    split at g
    · rename_i ps e1
      obtain ⟨a, vs, rfl, q, hv⟩ := seq_ok S.rs rv e1
      rw [J2.K] at q
      refine ⟨a, vs, rfl, q.symm, rd_of S (gR.bind g fun ys st2 H2 ρ2 y _ s2 r2 g2 => ?_)⟩
      exact g2 H2 ρ2 _ (.refl s2.rs) ((s2.rvs hv).append r2)
    · exact g.elim
end
/-! ### len(set(x)) -/
def memI (i : Int) : List Int → Bool
  | [] => false
  | j :: r => decide (j = i) || memI i r
def dist : List Int → List Int
  | [] => []
  | i :: r => match memI i r with
    | true => dist r
    | false => i :: dist r
theorem memI_iff {i : Int} : ∀ {l : List Int}, memI i l = true ↔ i ∈ l
  | [] => by simp [memI]
  | j :: r => by
    unfold memI
    rw [Bool.or_eq_true, decide_eq_true_eq, memI_iff, List.mem_cons]
    exact or_congr_left eq_comm
theorem dist_mem {i : Int} : ∀ {l : List Int}, i ∈ dist l ↔ i ∈ l
  | [] => Iff.rfl
  | j :: r => by
    unfold dist
    cases h : memI j r with
    | true =>
      rw [dist_mem, List.mem_cons]
      exact ⟨.inr, fun z => z.elim (fun e => by rw [e]; exact memI_iff.mp h) id⟩
    | false => rw [List.mem_cons, List.mem_cons, dist_mem]
theorem dist_nodup : ∀ l : List Int, (dist l).Nodup
  | [] => List.nodup_nil
  | j :: r => by
    unfold dist
    cases h : memI j r with
    | true => exact dist_nodup r
    | false =>
      refine List.nodup_cons.mpr ⟨fun z => ?_, dist_nodup r⟩
      rw [memI_iff.mpr (dist_mem.mp z)] at h
      cases h
theorem dist_len {l m : List Int} (hn : m.Nodup) (h : ∀ k, k ∈ m ↔ k ∈ l) : m.length = (dist l).length :=
  (List.Perm.length_eq ((List.perm_ext_iff_of_nodup hn (dist_nodup l)).mpr fun k => (h k).trans dist_mem.symm))
theorem met_nodup (val : Nat → Int) : ∀ i, (PyProof.Rows.firstMet val i).Nodup
  | 0 => by
    rw [PyProof.Rows.firstMet_zero]
    exact List.nodup_nil
  | i + 1 => by
    rw [PyProof.Rows.firstMet_succ]
    unfold PyProof.Rows.step_dedup
    split
    · exact met_nodup val i
    · rename_i h
      rw [List.nodup_append]
      refine ⟨met_nodup val i, by simp, fun a ha b hb z => h ?_⟩
      have hb : b = val i := by simpa using hb
      rw [List.any_eq_true]
      exact ⟨a, ha, by rw [z, hb]; simp⟩
def tLenSetZ (K : PySem.W.Frag) (ta : TE) : TE := fun σ H Q => ta σ H fun x H1 => ∃ (l : Addr) (ns : List Int), x = V.ref l ∧ (SqL K H1 l (ns.map V.int) ∨ SqT K H1 l (ns.map V.int)) ∧ ns.length < 64 ∧ Q (.int (dist ns).length) H1
theorem pe_lenSetZ {X : Cx} {a : Expr} {ta : TE} {p p2 q pos : Pos} (hc : X.calm = true) (hg : Gl X "len") (hm : X.mg "len" = none) (hg2 : Gl X "set") (hm2 : X.mg "set" = none) (ha : PE X a ta)
    (na : starEach [a] X.env = (false, eval a X.env) :: starEach [] X.env := by rfl) : PE X (.Call (.Name "len" p) [.Call (.Name "set" p2) [a] [] q] [] pos) (tLenSetZ X.K ta) := by
  refine ⟨fun pins s σ H Q I h => ?_⟩
  refine Call_ (ld_blt I hg hm PySem.boot_len ?_)
  refine PyProof.Rows.callWith_builtin1 (PyProof.Rows.args_cons ?_ rfl) rfl rfl
  refine Call_ (ld_blt I hg2 hm2 PyProof.Rows.boot_set ?_)
  refine PyProof.Rows.callWith_type1 (PyProof.Rows.args_cons (thn (ha.run pins s σ H _ I h) fun v s1 ⟨x, H1, I1, r1, q1⟩ => PyProof.Rows.args_nil ?_) na) na rfl
  obtain ⟨l, ns, rfl, hq, h1, q1⟩ := q1
  cases r1
  rcases hq with hq | hq
  · obtain ⟨its, r, pl, hz⟩ := I1.list hq
    have hl : its.toArray.size = ns.length := by rw [List.size_toArray, ← r.length, List.length_map]
    refine call_set_list (I1.ok.hd hc) pl.isList (ns := ns) (by simpa using r.ints) (by unfold scanBound; omega) fun h' tk hS hk => ?_
    rw [hl] at hS
    refine PyProof.Rows.args_nil ?_
    obtain ⟨o, es, ep, t, ho, hex, hd, _, _, _, hf, hn⟩ := hS
    have I2 : Inv X pins σ H1 { s1 with heap := h', toks := tk } := I1.kept fun b o e => hk b o (Heap.lt_size e) e
    have hd2 : (PyProof.Rows.firstMet (fun i => ns.getD i 0) ns.length).length = (dist ns).length := by
      refine dist_len (met_nodup _ _) fun k => ?_
      have z := PyProof.Rows.firstMet_any (fun i => ns.getD i 0) ns.length k
      have z2 : ∀ L : List Int, (L.any (· == k)) = true ↔ k ∈ L := fun L => by
        rw [List.any_eq_true]
        exact ⟨fun ⟨x, hx, e⟩ => by rw [← beq_iff_eq.mp e]; exact hx, fun hx => ⟨k, hx, by simp⟩⟩
      rw [← z2, z, z2]
      have z3 : (List.range ns.length).map (fun i => ns.getD i 0) = ns := by
        refine List.ext_getElem (by simp) fun i h1 h2 => ?_
        simp only [List.getElem_map, List.getElem_range]
        rw [List.getD_eq_getElem?_getD, List.getElem?_eq_getElem h2]
        rfl
      rw [z3]
    have hlen : (dist ns).length ≤ ns.length := by rw [← hd2]; exact PyProof.Rows.firstMet_length_le _ _
    refine call_len_set ho hex hd hf (by rw [hn, hd2]; omega) ⟨.int (dist ns).length, H1, I2.tok _, ⟨_, by rw [hn, hd2]⟩, q1⟩
  · obtain ⟨its, rv, pt, hz⟩ := I1.tuple hq
    refine call_set_tupI ns (I1.ok.hd hc) (show s1.heap.IsTuple l its.toArray from pt) (by simpa using rv.ints) (by unfold scanBound; omega) fun h' tk c R1 hcn k => ?_
    obtain ⟨o, es, ep, t, ho, hex, hdt, g, nd, hm3, hb, hf, hn, hr, hl2⟩ := R1
    refine PyProof.Rows.args_nil ?_
    have I2 : Inv X pins σ H1 { s1 with heap := h', toks := tk } := I1.kept k
    have hlen : es.size = (dist ns).length := by
      have z := dist_len nd (l := ns) fun k => by
        have := hm3 k
        rw [decide_eq_true_eq] at this
        exact this.symm
      rw [List.length_map, Array.length_toList] at z
      exact z
    refine call_len_set ho hex hdt hf (by omega) ⟨.int (dist ns).length, H1, I2.tok _, ⟨_, by rw [hlen]⟩, q1⟩
def fLenSet (p : PV) (st : Sto) : Res PV := match seqOf st p with
  | some ys => match intsOf ys with
    | some ns => if Nat.blt ns.length 64 = true then .ok (.int (dist ns).length) st else .bad
    | none => .bad
  | none => .bad
section
variable {X : Cx} {J : Jx} {a b : Expr} {da db : DE}
theorem xe_lenset {p p2 q pos : Pos} (J2 : XK2 X J) (hg : Gl X "len") (hm : X.mg "len" = none) (hg2 : Gl X "set") (hm2 : X.mg "set" = none) (ha : PE X a (rdE J da)) (na : starEach [a] X.env = (false, eval a X.env) :: starEach [] X.env := by rfl) :
    PE X (.Call (.Name "len" p) [.Call (.Name "set" p2) [a] [] q] [] pos) (rdE J (dUn fLenSet da)) := PE.imp (pe_lenSetZ J2.cm hg hm hg2 hm2 ha na) fun σ H Q h => by
  refine rd_bind J2.st h fun ρ th env st v x H1 S rv g => ?_
  unfold fLenSet at g
  split at g
  · rename_i ys e1
    split at g
    · rename_i ns e2
      split at g
      · rename_i hz
        obtain ⟨l, vs, rfl, q, hv⟩ := seq_ok S.rs rv e1
        rw [rvs_ints e2 hv, J2.K] at q
        exact ⟨l, ns, rfl, q, Nat.le_of_ble_eq_true hz, g H1 ρ _ (.refl S.rs) rfl⟩
      · exact g.elim
    · exact g.elim
  · exact g.elim
/-! ### tuple(range(..)) -/
def rgP (i j : Int) : List PV := rngV i 1 (j - i).toNat
theorem rgP_ok {W : Wd} {H : Hp} {ρ : Nat → Addr} {n : Nat} : ∀ (m : Nat) (i : Int), RVs W H ρ n (rngV i 1 m) ((List.range m).map fun k => V.int (i + (k : Nat)))
  | 0, i => rfl
  | m + 1, i => by
    rw [List.range_succ_eq_map, List.map_cons, List.map_map]
    refine ⟨V.int i, (List.range m).map ((fun k : Nat => V.int (i + (k : Nat))) ∘ Nat.succ), by simp, rfl, ?_⟩
    have := rgP_ok (W := W) (H := H) (ρ := ρ) (n := n) m (i + 1)
    have e : ((fun k : Nat => V.int (i + (k : Nat))) ∘ Nat.succ) = fun k : Nat => V.int (i + 1 + (k : Nat)) := by
      funext k
      show V.int (i + ((k + 1 : Nat) : Int)) = _
      congr 1
      omega
    rw [e]
    exact this
def okR (i j : Int) : Bool := decide (0 ≤ i) && decide (i ≤ 16777216) && decide (0 ≤ j) && decide (j ≤ 16777216)
def fTupR (i j : PV) (st : Sto) : Res PV := match i, j with
  | .int i, .int j => if okR i j = true then .ok (.tup (rgP i j)) st else .bad
  | _, _ => .bad
theorem okR_ok {i j : Int} (h : okR i j = true) : RgOk i j := by
  unfold okR at h
  simp only [Bool.and_eq_true, decide_eq_true_eq] at h
  exact RgOk.of_le h.1.1.1 h.2 h.1.1.2 h.1.2
theorem tupR_ok {i j : Int} {W : Wd} {E : XK} {H : Hp} {ρ : Nat → Addr} {st : Sto} {Q : VK} (r : RSt W H ρ st) (g : gE W E (fTupR (.int i) (.int j) st) H ρ st.length Q) : RgOk i j ∧ ∀ q, H q = none → Q (.ref q) (upd H q (.tup (rgV i j))) := by
  unfold fTupR at g
  dsimp only at g
  split at g
  · rename_i h
    refine ⟨okR_ok h, fun q hq => g _ ρ _ (.newT r hq) (rv_newT hq ?_)⟩
    exact rgP_ok _ _
  · exact g.elim
theorem xe_tupR1 {p p2 pos q : Pos} (J2 : XK2 X J) (hg : Gl X "tuple") (hm : X.mg "tuple" = none) (hg2 : Gl X "range") (hm2 : X.mg "range" = none) (ha : PE X a (rdE J da)) (na : starEach [a] X.env = (false, eval a X.env) :: starEach [] X.env := by rfl)
    (nb : starEach [.Call (.Name "range" p2) [a] [] q] X.env = (false, eval (.Call (.Name "range" p2) [a] [] q) X.env) :: starEach [] X.env := by rfl) :
    PE X (.Call (.Name "tuple" p) [.Call (.Name "range" p2) [a] [] q] [] pos) (rdE J (dBin fTupR (dC (.int 0)) da)) := PE.imp (pe_tupRg J2.cm hg hm (prg_1 hg2 hm2 ha na) nb) fun σ H Q h => by
  have h : rdE J da σ H _ := rd_bind J2.st (da := da) (f := fun y th env st => fTupR (.int 0) y st) (Q2 := fun x H1 => ∃ n, x = V.int n ∧ RgOk 0 n ∧ ∀ q, H1 q = none → Q (.ref q) (upd H1 q (.tup (rgV 0 n)))) h fun ρ th env st v x H1 S rv g => by
    cases v with
    | int n => exact ⟨n, rv, tupR_ok S.rs g⟩
    | _ => exact g.elim
  exact h
theorem xe_tupR2 {p p2 pos q : Pos} (J2 : XK2 X J) (hg : Gl X "tuple") (hm : X.mg "tuple" = none) (hg2 : Gl X "range") (hm2 : X.mg "range" = none) (ha : PE X a (rdE J da)) (hb : PE X b (rdE J db)) (na : starEach [a, b] X.env = (false, eval a X.env) :: starEach [b] X.env := by rfl)
    (nb : starEach [b] X.env = (false, eval b X.env) :: starEach [] X.env := by rfl) (hp : (backTo q (starEach [b] X.env)).any (·.1) = false := by rfl)
    (nc : starEach [.Call (.Name "range" p2) [a, b] [] q] X.env = (false, eval (.Call (.Name "range" p2) [a, b] [] q) X.env) :: starEach [] X.env := by rfl) :
    PE X (.Call (.Name "tuple" p) [.Call (.Name "range" p2) [a, b] [] q] [] pos) (rdE J (dBin fTupR da db)) := PE.imp (pe_tupRg J2.cm hg hm (prg_2 hg2 hm2 ha hb na nb hp) nc) fun σ H Q h => by
  refine rd_bind J2.st (Q2 := fun x H1 => rdE J db σ H1 fun y H2 => ∃ i j, x = V.int i ∧ y = V.int j ∧ RgOk i j ∧ ∀ q, H2 q = none → Q (.ref q) (upd H2 q (.tup (rgV i j)))) h fun ρ th env st v x H1 S rv g => ?_
  refine rd_of S (gR.bind g fun w st2 H2 ρ2 y _ s2 r2 g2 => ?_)
  cases v with
  | int i =>
    cases w with
    | int j => exact ⟨i, j, rv, r2, tupR_ok s2.rs g2⟩
    | _ => exact g2.elim
  | _ => exact g2.elim
end
/-! ### x += n, x -= n -/
def pAddI (x y : PV) (st : Sto) : Res PV := match x, y with
  | .int i, .int j => .ok (.int (i + j)) st
  | _, _ => .bad
theorem ok_ipAdd {J : Jx} : OpOK J pAddI (ipI fun i j => i + j) := by
  intro E H ρ st p q x y Q r hx hy g
  unfold pAddI at g
  split at g
  · exact ⟨_, _, hx, hy, g H ρ _ (.refl r) rfl⟩
  · exact g.elim
def pSubI (x y : PV) (st : Sto) : Res PV := match x, y with
  | .int i, .int j => .ok (.int (i - j)) st
  | _, _ => .bad
theorem ok_ipSub {J : Jx} : OpOK J pSubI (ipI fun i j => i - j) := by
  intro E H ρ st p q x y Q r hx hy g
  unfold pSubI at g
  split at g
  · exact ⟨_, _, hx, hy, g H ρ _ (.refl r) rfl⟩
  · exact g.elim
end Mi
end
section
set_option maxRecDepth 100000
set_option maxHeartbeats 4000000
/-! MiFrc: what a loop holds is computed before its next turn (the same meaning; it keeps the kernel's terms small) -/
namespace Mi
open PySem PySem.Spec PyProof.Rows L2
section
variable {α : Type}
def frcNat (n : Nat) (k : Nat → α) : α := match n with
  | 0 => k 0
  | m + 1 => k (m + 1)
theorem frcNat_eq (n : Nat) (k : Nat → α) : frcNat n k = k n := by cases n <;> rfl
def frcInt (i : Int) (k : Int → α) : α := match i with
  | .ofNat n => frcNat n fun n => k (.ofNat n)
  | .negSucc n => frcNat n fun n => k (.negSucc n)
theorem frcInt_eq (i : Int) (k : Int → α) : frcInt i k = k i := by
  cases i with
  | ofNat n => exact frcNat_eq n fun n => k (.ofNat n)
  | negSucc n => exact frcNat_eq n fun n => k (.negSucc n)
def frcP (p : PV) (k : PV → α) : α := match p with
  | .int i => frcInt i fun i => k (.int i)
  | p => k p
theorem frcP_eq (p : PV) (k : PV → α) : frcP p k = k p := by
  cases p with
  | int i => exact frcInt_eq i fun i => k (.int i)
  | _ => rfl
noncomputable def frcVs (l : List PV) (k : List PV → α) : α := List.rec (motive := fun _ => (List PV → α) → α) (fun k => k []) (fun p _ ih k => frcP p fun p => ih fun r => k (p :: r)) l k
theorem frcVs_eq : ∀ (l : List PV) (k : List PV → α), frcVs l k = k l
  | [], _ => rfl
  | p :: r, k => by
    show frcP p (fun p => frcVs r fun r => k (p :: r)) = _
    rw [frcP_eq, frcVs_eq r]
noncomputable def frcV (p : PV) (k : PV → α) : α := match p with
  | .int i => frcInt i fun i => k (.int i)
  | .tup xs => frcVs xs fun xs => k (.tup xs)
  | p => k p
theorem frcV_eq (p : PV) (k : PV → α) : frcV p k = k p := by
  cases p with
  | int i => exact frcInt_eq i fun i => k (.int i)
  | tup xs => exact frcVs_eq xs fun xs => k (.tup xs)
  | _ => rfl
noncomputable def frcO (o : SO) (k : SO → α) : α := match o with
  | .lst xs => frcVs xs fun xs => k (.lst xs)
  | o => k o
theorem frcO_eq (o : SO) (k : SO → α) : frcO o k = k o := by
  cases o with
  | lst xs => exact frcVs_eq xs fun xs => k (.lst xs)
  | _ => rfl
/-- from the object n on -/
noncomputable def frcS : Nat → Sto → (Sto → α) → α
  | _, [], k => k []
  | 0, o :: r, k => frcO o fun o => frcS 0 r fun r => k (o :: r)
  | n + 1, o :: r, k => frcS n r fun r => k (o :: r)
theorem frcS_eq : ∀ (n : Nat) (st : Sto) (k : Sto → α), frcS n st k = k st
  | 0, [], _ => rfl
  | _ + 1, [], _ => rfl
  | 0, o :: r, k => by
    unfold frcS
    rw [frcO_eq, frcS_eq 0 r]
  | n + 1, o :: r, k => by
    unfold frcS
    rw [frcS_eq n r]
/-- the numbers that slots hold -/
def frcE : Mi.Env → (Mi.Env → α) → α
  | [], k => k []
  | some (.int i) :: r, k => frcInt i fun i => frcE r fun r => k (some (.int i) :: r)
  | o :: r, k => frcE r fun r => k (o :: r)
theorem frcE_eq : ∀ (env : Mi.Env) (k : Mi.Env → α), frcE env k = k env
  | [], _ => rfl
  | o :: r, k => by
    unfold frcE
    split
    · rename_i h
      cases h
    · rename_i i r' h
      cases h
      rw [frcInt_eq, frcE_eq r]
    · rename_i h1 h2
      injection h2 with h2 h3
      subst h2 h3
      rw [frcE_eq]
end
/-- the last m objects of the store and the numbers of the slots are computed, then d -/
noncomputable def dFrc (m : Nat) (d : DS) : DS := fun th env st => frcE env fun env => frcS (st.length - m) st fun st => d th env st
theorem dFrc_eq (m : Nat) (d : DS) : dFrc m d = d := by
  funext th env st
  unfold dFrc
  rw [frcE_eq, frcS_eq]
section
variable {X : Cx} {J : Jx}
theorem yss_frc {m : Nat} {b : List Stmt} {d : DS} (h : PSs X b (rdS J d)) : PSs X b (rdS J (dFrc m d)) := by
  rw [dFrc_eq]
  exact h
end
/-- a number that a comprehension yields is computed -/
noncomputable def dFrcE (d : DE) : DE := fun th env st => (d th env st).bind fun v st1 => frcV v fun v => .ok v st1
theorem dFrcE_eq (d : DE) : dFrcE d = d := by
  funext th env st
  unfold dFrcE
  cases d th env st with
  | ok v st1 => exact frcV_eq v fun v => Res.ok v st1
  | exc e st1 => rfl
  | bad => rfl
section
variable {X : Cx} {J : Jx}
theorem xe_frc {e : Expr} {d : DE} (h : PE X e (rdE J d)) : PE X e (rdE J (dFrcE d)) := by
  rw [dFrcE_eq]
  exact h
end
/-! ### x, y, z = a, b, c -/
def dPar3 (i j l : Nat) (a b c : DE) : DS := fun th env st => (a th env st).s env fun x st => (b th env st).s env fun y st => (c th env st).s env fun z st => .nx (((env.set i (some x)).set j (some y)).set l (some z)) st
section
variable {X : Cx} {J : Jx} {a b c : Expr} {da db dc : DE} {pos : Pos}
theorem ys_par3 {i j l : Nat} {x y z : Str} {px py pz pt : Pos} {kt k2 pt2} (J2 : XJ X J) (hc : X.calm = true) (hN : X.N.Nodup) (hi : X.N[i]? = some x) (hj : X.N[j]? = some y) (hl : X.N[l]? = some z) (hij : i ≠ j) (hil : i ≠ l) (hjl : j ≠ l)
    (hx : X.env.scope.names.lookup x = some .local) (hy : X.env.scope.names.lookup y = some .local) (hz : X.env.scope.names.lookup z = some .local)
    (ha : PE X a (rdE J da)) (hb : PE X b (rdE J db)) (hcc : PE X c (rdE J dc)) (hw : swappedStores [.Tuple [.Name x px, .Name y py, .Name z pz] kt pt] (.Tuple [a, b, c] k2 pt2) X.env = pure (some [x, y, z])) (h1 : starEach [a, b, c] X.env = (false, eval a X.env) :: starEach [b, c] X.env := by rfl) (h2 : starEach [b, c] X.env = (false, eval b X.env) :: starEach [c] X.env := by rfl) (h3 : starEach [c] X.env = (false, eval c X.env) :: starEach [] X.env := by rfl)
    (hs : swapsWithSole [.Tuple [.Name x px, .Name y py, .Name z pz] kt pt] (.Tuple [a, b, c] k2 pt2) pos.line X.env = pure false := by rfl) : PS X (.Assign [.Tuple [.Name x px, .Name y py, .Name z pz] kt pt] (.Tuple [a, b, c] k2 pt2) pos) (rdS J (dPar3 i j l da db dc)) :=
  PS.imp (ps_par3 (ta := tCons (rdE J da) (tCons (rdE J db) (tCons (rdE J dc) tNil))) hc hN hi hj hl hij hil hjl hx hy hz (pa_cons ha (pa_cons hb (pa_cons hcc pa_nil h3) h2) h1) hw hs) fun D σ H h =>
    rs_bind J2.st h fun ρ th env st v x H1 S r g => rd_of S (gS.bind S.env g fun w st2 H2 ρ2 y _ s2 r2 g2 => rd_of (S.step J2.st s2) (gS.bind (s2.renv S.env) g2 fun u st3 H3 ρ3 z _ s3 r3 g3 => ⟨x, y, z, rfl, g3 H3 ρ3 _ (.refl s3.rs) ((((s3.renv (s2.renv S.env)).set i (s3.rv (s2.rv r))).set j (s3.rv r2)).set l r3)⟩))
end
end Mi
end
section
set_option maxRecDepth 100000
set_option maxHeartbeats 4000000
/-! MiRevT: t[::-1] of a tuple; a, b = a list -/
namespace Mi
open PySem PySem.Spec PyProof.Rows L2 HT
section
variable {prog : Program} {w : World} {A : Around} {E : Value → Shared → Prop} {s : Shared}
theorem adjust_back (n : Nat) : Builtin.Slice.sliceAdjust none none (-1) (n : Int) = ((n : Int) - 1, -1) := by
  unfold Builtin.Slice.sliceAdjust
  simp
theorem places_back (n : Nat) : Builtin.Slice.slicePlaces ((n : Int) - 1) (-1) (-1) = n := by
  unfold Builtin.Slice.slicePlaces
  simp
  try omega
theorem applied_back {sl : Addr} {tk : Tok} {n : Nat} {Q : Int × Int × Nat → Shared → Prop} (hs : s.heap.IsSliceOf sl .none .none (.int (-1) tk)) (h : Q ((n : Int) - 1, -1, n) s) : wpAny (model prog w) A (Builtin.Slice.sliceApplied (.ref sl) (pure (n : Int))) Q E s := by
  obtain ⟨os, hos, hcs, hds⟩ := id hs
  unfold Builtin.Slice.sliceApplied Builtin.Slice.sliceFields
  refine wpAny_bind (wpAny_bind (wpAny_field hos hds (x := .none) rfl (wpAny_bind (wpAny_field hos hds (x := .none) rfl (wpAny_bind (wpAny_field hos hds (x := .int (-1) tk) rfl (wpAny_pure ?_)))))))
  refine wpAny_bind (slicePart_int ?_)
  show wpAny _ _ (if ((-1 : Int) == 0) = true then _ else _) _ _ s
  rw [if_neg (by decide)]
  refine wpAny_bind (slicePart_none (wpAny_bind (slicePart_none (wpAny_bind (wpAny_pure ?_)))))
  show wpAny _ _ (match Builtin.Slice.sliceAdjust none none (-1) (n : Int) with | (lo, hi) => pure (lo, (-1 : Int), Builtin.Slice.slicePlaces lo hi (-1))) _ _ s
  rw [adjust_back]
  show wpAny _ _ (pure ((n : Int) - 1, (-1 : Int), Builtin.Slice.slicePlaces ((n : Int) - 1) (-1) (-1))) _ _ s
  rw [places_back]
  exact wpAny_pure h
theorem fm_all {α β : Type} {f : α → Option β} {g : α → β} : ∀ {l : List α}, (∀ x ∈ l, f x = some (g x)) → l.filterMap f = l.map g
  | [], _ => rfl
  | x :: r, h => by
    rw [List.filterMap_cons, h x List.mem_cons_self, List.map_cons, fm_all fun y hy => h y (List.mem_cons_of_mem _ hy)]
theorem pick_back (xs : Array Value) : ((List.range xs.size).filterMap fun (m : Nat) => xs[(((xs.size : Int) - 1) + (m : Int) * (-1)).toNat]?) = xs.toList.reverse := by
  have e : ∀ m ∈ List.range xs.size, xs[(((xs.size : Int) - 1) + (m : Int) * (-1)).toNat]? = some (xs.toList.reverse.getD m .none) := fun m hm => by
    have hm := List.mem_range.mp hm
    have e1 : (((xs.size : Int) - 1) + (m : Int) * (-1)).toNat = xs.size - 1 - m := by omega
    rw [e1, List.getD_eq_getElem?_getD, List.getElem?_reverse (by simpa using hm)]
    rw [← Array.getElem?_toList, Array.length_toList, List.getElem?_eq_getElem (by rw [Array.length_toList]; omega)]
    rfl
  rw [fm_all e]
  refine List.ext_getElem (by simp) fun i h1 h2 => ?_
  simp only [List.getElem_map, List.getElem_range]
  rw [List.getD_eq_getElem?_getD, List.getElem?_eq_getElem h2]
  rfl
theorem getItem_back {t sl : Addr} {items : Array Value} {tk : Tok} {Q : Value → Shared → Prop} (ht : IsTup s.heap t items) (hs : s.heap.IsSliceOf sl .none .none (.int (-1) tk))
    (h : Q (.ref s.heap.objs.size) { s with heap := s.heap.push { cls := .type "tuple", data := .seq items.toList.reverse.toArray } })
    (hsz : items.size ≤ sizeLine) : wpAny (model prog w) A (getItem (.ref t) (.ref sl)) Q E s := by
  have htake : sizeOk (.seq items.toList.reverse.toArray) := by
    show items.toList.reverse.toArray.size ≤ sizeLine
    rw [List.size_toArray, List.length_reverse, Array.length_toList]
    exact hsz
  obtain ⟨os, hos, hcs, hds⟩ := id hs
  have hTs : s.TypeIs (.ref sl) "slice" := ⟨os, hos, hcs⟩
  unfold getItem
  try with_reducible refine wpAny_holding ?_
  first | refine wpAny_bind (wpAny_pure ?_) | skip
  refine wpAny_bind (wpAny_sequenceKey ht.typeIs (by decide) ?_)
  refine wpAny_bind (wpAny_callSpecial?_slot (name := Str.ofString "__getitem__") ht.typeIs PyProof.Rows.slot_tuple_getitem
    (wpAny_call_entry PyProof.Rows.slot_tuple_getitem ht.typeIs entry_tuple_getitem ?_ (args_tuple_getitem _ _)))
  show wpAny _ _ (Builtin.Tuple.tupleItemsOf (.ref t) >>= _) _ _ s
  refine wpAny_bind (tupleItemsOf_ ht ?_)
  refine wpAny_bind (wpAny_typeOf hTs ?_)
  rw [if_pos (by decide)]
  refine wpAny_bind (applied_back hs ?_)
  have hno : ¬ ((((items.size : Int) - 1) == 0 && (-1 : Int) == 1 && items.size == items.size) = true) := by
    intro q
    rw [Bool.and_eq_true, Bool.and_eq_true] at q
    exact absurd q.1.2 (by decide)
  show wpAny _ _ (if (((items.size : Int) - 1) == 0 && (-1 : Int) == 1 && items.size == items.size) = true then _ else _) _ _ s
  rw [if_neg hno, pick_back]
  first
    | exact wpAny_bind (m := Builtin.Tuple.tupleExact _) (wpAny_newObj_type (wpAny_pure ⟨_, rfl, wpAny_pure h⟩) htake)
    | exact wpAny_bind (m := Builtin.Tuple.tupleExact _) (wpAny_newObj_type (wpAny_bind (wpAny_pure (wpAny_pure ⟨_, rfl, wpAny_pure h⟩))) htake)
    | exact wpAny_bind (wpAny_bind (m := Builtin.Tuple.tupleExact _) (wpAny_newObj_type (wpAny_pure (wpAny_pure ⟨_, rfl, wpAny_pure h⟩)) htake))
    | exact wpAny_bind (wpAny_bind (m := Builtin.Tuple.tupleExact _) (wpAny_newObj_type (wpAny_pure ⟨_, rfl, wpAny_pure h⟩) htake))
end
/-- t[::-1] -/
def tRevT (K : PySem.W.Frag) (te : TE) : TE := fun σ H Q => te σ H fun x H1 => ∃ a xs, x = .ref a ∧ SqT K H1 a xs ∧ ∀ p, H1 p = none → Q (.ref p) (upd H1 p (.tup xs.reverse))
theorem vals_rev {xs : List V} {us : List Value} (r : Vals xs us) : Vals xs.reverse us.reverse := by
  induction r with
  | nil => exact .nil
  | cons h t ih =>
    rw [List.reverse_cons, List.reverse_cons]
    exact ih.append (.cons h .nil)
theorem pe_revT {X : Cx} {e : Expr} {te : TE} {k : Nat} {p1 p2 p3 pos : Pos} (he : PE X e te) : PE X (.Subscript e (.Slice none none (some (.UnaryOp .USub (.Constant (.int 1) k p1) p2)) p3) pos) (tRevT X.K te) := ⟨fun pins s σ H Q I h => by
  have minus : PO X (some (.UnaryOp .USub (.Constant (.int 1) k p1) p2)) (tPart (tUn (rU fun i => .int (-i)) (tC (.int 1)))) := po_some (pe_un un_neg pe_int)
  refine Subscript_ (thn (he.run pins s σ H _ I h) fun v s1 hv => ?_)
  obtain ⟨x, H1, I1, r1, a, xs, hx, hq, q⟩ := hv
  subst hx
  cases r1
  refine wpAny_Slice (thn (po_none.run pins s1 σ H1 (fun o K => o = none ∧ K = H1) I1 ⟨rfl, rfl⟩) fun vl s2 h2 => ?_)
  obtain ⟨l, H2, I2, pl, e2, k2⟩ := h2
  subst e2 k2
  refine thn (po_none.run pins s2 σ H2 (fun o K => o = none ∧ K = H2) I2 ⟨rfl, rfl⟩) fun vu s3 h3 => ?_
  obtain ⟨u, H3, I3, pu, e3, k3⟩ := h3
  subst e3 k3
  refine thn (minus.run pins s3 σ H3 (fun o K => o = some (-1) ∧ K = H3) I3 ⟨1, rfl, -1, rfl, rfl, rfl⟩) fun vs s4 h4 => ?_
  obtain ⟨o, H4, I4, ps, e4, k4⟩ := h4
  subst e4 k4
  cases pl
  cases pu
  cases ps with
  | int _ tk =>
    have I5 : Inv X pins σ H4 { s4 with heap := s4.heap.push { cls := .type "slice", data := .fields #[.none, .none, .int (-1) tk] } } := I4.kept (t' := s4.toks) fun b ob q => Heap.get?_push_of_some _ q
    obtain ⟨its, r, ht, hz⟩ := I5.tuple hq
    have hlen : its.toArray.size = xs.length := by rw [List.size_toArray]; exact r.length.symm
    refine tail_any (s := { s4 with heap := s4.heap.push { cls := .type "slice", data := .fields #[.none, .none, .int (-1) tk] } }) ht.typeIs PyProof.Rows.slot_tuple_getitem.lookup ?_ (by with_unfolding_all rfl)
    refine getItem_back (tk := tk) ht ⟨_, Heap.get?_push_size _ rfl, rfl, rfl⟩ ?_ (by rw [hlen]; exact hz)
    refine ⟨.ref _, _, I5.laid (t' := s4.toks) (o := .tup xs.reverse) (fun b ob q => Heap.get?_push_of_some _ q) (Nat.le_refl _) ?_, rfl, q _ (I5.hok.fresh (Nat.le_refl _))⟩
    exact ⟨by rw [List.length_reverse]; exact hz, _, by simpa using vals_rev r, IsTup.new _ _⟩⟩
def fRevT (p : PV) (st : Sto) : Res PV := match p with
  | .tup xs => .ok (.tup xs.reverse) st
  | _ => .bad
theorem RVs.rev {W : Wd} {H : Hp} {ρ : Nat → Addr} {n : Nat} : ∀ {ps : List PV} {vs : List V}, RVs W H ρ n ps vs → RVs W H ρ n ps.reverse vs.reverse
  | [], _, h => by
    have h : _ = [] := h
    subst h
    exact rfl
  | p :: ps, _, ⟨v, r, e, h, t⟩ => by
    subst e
    rw [List.reverse_cons, List.reverse_cons]
    exact (RVs.rev t).append ⟨v, [], rfl, h, rfl⟩
section
variable {X : Cx} {J : Jx} {e : Expr} {de : DE} {pos : Pos}
theorem xe_revT {k : Nat} {p1 p2 p3 : Pos} (J2 : XJ X J) (he : PE X e (rdE J de)) : PE X (.Subscript e (.Slice none none (some (.UnaryOp .USub (.Constant (.int 1) k p1) p2)) p3) pos) (rdE J (dUn fRevT de)) := PE.imp (pe_revT he) fun σ H Q h => by
  refine rd_bind J2.st h fun ρ th env st v x H1 S rv g => ?_
  cases v with
  | tup xs =>
    obtain ⟨a, vs, rfl, q, hv⟩ := rv
    rw [J2.K] at q
    exact ⟨a, vs, rfl, q, fun p hp => g _ ρ _ (.newT S.rs hp) (rv_newT hp hv.rev)⟩
  | _ => exact g.elim
/-- a, b = a list -/
def dUnL (ts : List Tg) (e : DE) : DS := fun th env st => (e th env st).s env fun v st => match v with
  | .ref k => match lstAt st k with
    | some xs => match Tg.sets ts xs env with
      | some env => .nx env st
      | none => .bad
    | none => .bad
  | _ => .bad
theorem ys_unpL {es : List Expr} {ts : List Tg} {k : Nat} {tp : Pos} (J2 : XJ X J) (hc : X.calm = true) (he : PE X e (rdE J de)) (h : PGs X es (Tg.rds X.K ts)) (hn : (assignEach es X.env).length = ts.length := by rfl) (hst : (assignEach es X.env).findIdx? (·.1) = none := by rfl)
    (hs : swapsWithSole [.Tuple es k tp] e pos.line X.env = pure false := by rfl) (hw : swappedStores [.Tuple es k tp] e X.env = pure none := by rfl) (h1 : (assignEach [.Tuple es k tp] X.env).map (·.2) = [assign (.Tuple es k tp) X.env] := by rfl) :
    PS X (.Assign [.Tuple es k tp] e pos) (rdS J (dUnL ts de)) := PS.imp (ps_asg he (pg_lst hc h hn hst) hs hw h1) fun D σ H h => by
  refine rs_bind J2.st h fun ρ th env st v x H1 S r g => ?_
  cases v with
  | ref kk =>
    dsimp only at g
    split at g
    · rename_i xs e1
      split at g
      · rename_i env' e2
        obtain ⟨_, rfl⟩ := r
        obtain ⟨vs, q, hv⟩ := S.rs.seq e1
        rw [J2.K] at q
        have z := Tg.oks ts xs vs env env' σ (fun σ' H' => D.nx σ' H') hv S.env e2 fun σ' he _ => g H1 ρ σ' (.refl S.rs) he
        rw [J2.K] at z
        exact ⟨_, vs, rfl, q, z.1, z.2⟩
      · exact g.elim
    · exact g.elim
  | _ => exact g.elim
end
end Mi
end
section
set_option maxRecDepth 100000
set_option maxHeartbeats 4000000
/-! MiTZip: tuple(zip(a, b)) of two tuples -/
namespace TZ
open PySem PySem.Spec
abbrev IsZipU (h : Heap) (z TI TO : Addr) (t : Addr) (b : Bool) : Prop :=
  h.get? z = some { cls := .type "zip", dict := none, data := .fields #[rawInt t, .bool b, .bool false, .ref TI, .ref TO], slots := #[] }
section
variable {prog : Program} {w : World} {A : Around} {E : Value → Shared → Prop} {s : Shared}
theorem wpAny_loadAlive {a : Addr} {Q : Option Obj → Shared → Prop} (h : Q (s.heap.get? a) s) : wpAny (model prog w) A (loadIfAlive a) Q E s := by
  intro Γ p hp
  show Sem.wp _ Γ (.loadIfAlive a .pure) _ _ p s
  rw [Sem.wp_loadIfAlive]
  exact (wpAny_pure h : wpAny (model prog w) A (pure (s.heap.get? a)) Q E s) Γ p hp
theorem zipT_next_used {z TI TO i1 i2 l1 l2 t : Addr} {bb : Bool} {k1 k2 : Nat} {xs ys : Array Value} {x y : Value} {ot : Obj} {Q : Value → Shared → Prop} (D : ZipApart z TI TO i1 i2 l1 l2)
    (hz : IsZipU s.heap z TI TO t bb) (hTI : IsPair s.heap TI (.ref i1) (.ref i2)) (ht : s.heap.get? t = some ot)
    (h1 : s.heap.IsTupleIter i1 l1 k1) (h2 : s.heap.IsTupleIter i2 l2 k2) (hl1 : s.heap.IsTuple l1 xs) (hl2 : s.heap.IsTuple l2 ys) (hx : xs[k1]? = some x) (hy : ys[k2]? = some y)
    (hQ : ∀ h', IsZipU h' z TI TO t true → h'.IsTupleIter i1 l1 (k1 + 1) → h'.IsTupleIter i2 l2 (k2 + 1) → IsPair h' s.heap.objs.size x y → h'.objs.size = s.heap.objs.size + 1 →
      (∀ c o, c ≠ z → c ≠ i1 → c ≠ i2 → s.heap.get? c = some o → h'.get? c = some o) → Q (.ref s.heap.objs.size) { s with heap := h' }) :
    wpAny (model prog w) A (Builtin.«zip.__next__» ⟨[.ref z], []⟩) (fun fin s' => ∃ v, fin = .done (.ret v) ∧ Q v s') E s := by
  show wpAny _ _ (field (.ref z) 2 >>= _) _ _ _
  refine wpAny_bind (wpAny_field hz rfl (x := .bool false) rfl ?_)
  show wpAny _ _ (field (.ref z) 3 >>= _) _ _ _
  refine wpAny_bind (wpAny_field hz rfl (x := .ref TI) rfl ?_)
  refine wpAny_bind (wpAny_seqItems hTI rfl ?_)
  show wpAny _ _ (Builtin.SmallTypes.ownedTupleIsFree (.ref z) >>= _) _ _ _
  have free : ∀ {Q' : Bool → Shared → Prop} {E' : Value → Shared → Prop}, (∀ h₁, IsZipU h₁ z TI TO t true → Heap.SameBut z s.heap h₁ → Q' false { s with heap := h₁ }) → wpAny (model prog w) A (Builtin.SmallTypes.ownedTupleIsFree (.ref z)) Q' E' s := by
    intro Q' E' h
    unfold Builtin.SmallTypes.ownedTupleIsFree
    refine wpAny_bind (wpAny_field hz rfl (x := rawInt t) rfl ?_)
    show wpAny _ _ (loadIfAlive (Int.toNat t) >>= _) _ _ _
    refine wpAny_bind (wpAny_loadAlive ?_)
    rw [show s.heap.get? (Int.toNat (t : Int)) = some ot from ht]
    show wpAny _ _ (field (.ref z) 1 >>= _) _ _ _
    refine wpAny_bind (wpAny_field hz rfl (x := .bool bb) rfl ?_)
    cases bb with
    | true => exact wpAny_pure (h s.heap hz (Heap.SameBut.refl _ _))
    | false =>
      show wpAny _ _ (setField (.ref z) 1 (.bool true) >>= _) _ _ _
      exact wpAny_bind (wpAny_setField_rec hz (by simp) fun h₁ hz₁ hs₁ => wpAny_pure (h h₁ hz₁ hs₁))
  refine wpAny_bind (free fun h₁ hz₁ hs₁ => ?_)
  simp only [Bool.false_eq_true, if_false]
  refine wpAny_bind ?_
  simp only [List.forIn_toArray, List.forIn_cons, List.forIn_nil]
  refine wpAny_bind (wpAny_bind (wpAny_holding ?_))
  show wpAny _ _ (Builtin.SmallTypes.nextOf (.ref i1) >>= _) _ _ _
  refine wpAny_bind (RZ.nextOf_tuple_item (h1.extBut hs₁.extBut D.i1z) (hl1.extBut hs₁.extBut D.l1z) hx fun h₂ h1₂ hs₂ => wpAny_pure (wpAny_pure ?_))
  refine wpAny_bind (wpAny_bind (wpAny_holding ?_))
  show wpAny _ _ (Builtin.SmallTypes.nextOf (.ref i2) >>= _) _ _ _
  refine wpAny_bind (RZ.nextOf_tuple_item ((h2.extBut hs₁.extBut D.i2z).extBut hs₂.extBut D.i12.symm)
    ((hl2.extBut hs₁.extBut D.l2z).extBut hs₂.extBut D.l2i1) hy fun h₃ h2₃ hs₃ => wpAny_pure (wpAny_pure (wpAny_pure ?_)))
  refine wpAny_bind (wpAny_newTuple (hsz := (by show (2 : Nat) ≤ sizeLine; decide)) ?_)
  have hsz : h₃.objs.size = s.heap.objs.size := by rw [hs₃.1, hs₂.1, hs₁.1]
  have hz₃ : IsZipU h₃ z TI TO t true := hs₃.extBut _ _ D.i2z.symm (hs₂.extBut _ _ D.i1z.symm hz₁)
  have hk₃ : ∀ c o, c ≠ z → c ≠ i1 → c ≠ i2 → s.heap.get? c = some o → h₃.get? c = some o := fun c o c1 c3 c4 e =>
    hs₃.extBut _ _ c4 (hs₂.extBut _ _ c3 (hs₁.extBut _ _ c1 e))
  have h1₃ : h₃.IsTupleIter i1 l1 (k1 + 1) := h1₂.extBut hs₃.extBut D.i12
  refine wpAny_pure ⟨_, rfl, ?_⟩
  show Q (.ref h₃.objs.size) _
  rw [hsz]
  have up : ∀ c o, h₃.get? c = some o → (h₃.push { cls := .type "tuple", data := .seq #[x, y] }).get? c = some o := fun c o e => Heap.get?_push_of_some _ e
  refine hQ _ (up _ _ hz₃) (h1₃.at fun o e => up _ o e) (h2₃.at fun o e => up _ o e) ?_ ?_ fun c o c1 c3 c4 e => up c o (hk₃ c o c1 c3 c4 e)
  · have := Heap.get?_push_size h₃ (o := { cls := .type "tuple", data := .seq #[x, y] }) rfl
    rw [hsz] at this
    exact this
  · rw [Heap.size_push, hsz]
theorem zipT_end_used {z TI TO i1 i2 l1 l2 t : Addr} {bb : Bool} {k1 k2 : Nat} {xs ys : Array Value} {ot : Obj} {Q : Fin → Shared → Prop} (hh : A.handled = none) (D : ZipApart z TI TO i1 i2 l1 l2)
    (hz : IsZipU s.heap z TI TO t bb) (hTI : IsPair s.heap TI (.ref i1) (.ref i2)) (ht : s.heap.get? t = some ot)
    (h1 : s.heap.IsTupleIter i1 l1 k1) (h2 : s.heap.IsTupleIter i2 l2 k2) (hl1 : s.heap.IsTuple l1 xs) (hl2 : s.heap.IsTuple l2 ys) (hend : xs[k1]? = none ∨ ys[k2]? = none)
    (hE : ∀ h' e, (∀ c o, c ≠ z → c ≠ i1 → c ≠ i2 → s.heap.get? c = some o → h'.get? c = some o) → (∃ o, h'.get? e = some o ∧ o.cls = .type "StopIteration") → E (.ref e) { s with heap := h' }) :
    wpAny (model prog w) A (Builtin.«zip.__next__» ⟨[.ref z], []⟩) Q E s := by
  show wpAny _ _ (field (.ref z) 2 >>= _) _ _ _
  refine wpAny_bind (wpAny_field hz rfl (x := .bool false) rfl ?_)
  show wpAny _ _ (field (.ref z) 3 >>= _) _ _ _
  refine wpAny_bind (wpAny_field hz rfl (x := .ref TI) rfl ?_)
  refine wpAny_bind (wpAny_seqItems hTI rfl ?_)
  show wpAny _ _ (Builtin.SmallTypes.ownedTupleIsFree (.ref z) >>= _) _ _ _
  have free : ∀ {Q' : Bool → Shared → Prop} {E' : Value → Shared → Prop}, (∀ h₁, IsZipU h₁ z TI TO t true → Heap.SameBut z s.heap h₁ → Q' false { s with heap := h₁ }) → wpAny (model prog w) A (Builtin.SmallTypes.ownedTupleIsFree (.ref z)) Q' E' s := by
    intro Q' E' h
    unfold Builtin.SmallTypes.ownedTupleIsFree
    refine wpAny_bind (wpAny_field hz rfl (x := rawInt t) rfl ?_)
    show wpAny _ _ (loadIfAlive (Int.toNat t) >>= _) _ _ _
    refine wpAny_bind (wpAny_loadAlive ?_)
    rw [show s.heap.get? (Int.toNat (t : Int)) = some ot from ht]
    show wpAny _ _ (field (.ref z) 1 >>= _) _ _ _
    refine wpAny_bind (wpAny_field hz rfl (x := .bool bb) rfl ?_)
    cases bb with
    | true => exact wpAny_pure (h s.heap hz (Heap.SameBut.refl _ _))
    | false =>
      show wpAny _ _ (setField (.ref z) 1 (.bool true) >>= _) _ _ _
      exact wpAny_bind (wpAny_setField_rec hz (by simp) fun h₁ hz₁ hs₁ => wpAny_pure (h h₁ hz₁ hs₁))
  refine wpAny_bind (free fun h₁ hz₁ hs₁ => ?_)
  simp only [Bool.false_eq_true, if_false]
  refine wpAny_bind ?_
  simp only [List.forIn_toArray, List.forIn_cons, List.forIn_nil]
  refine wpAny_bind (wpAny_bind (wpAny_holding ?_))
  show wpAny _ _ (Builtin.SmallTypes.nextOf (.ref i1) >>= _) _ _ _
  cases hx : xs[k1]? with
  | none =>
    refine wpAny_bind (RZ.nextOf_tuple_end hh (h1.extBut hs₁.extBut D.i1z) (hl1.extBut hs₁.extBut D.l1z) hx fun h₂ e hs₂ he => ?_)
    exact hE h₂ e (fun c o c1 c3 _ x => hs₂ _ _ c3 (hs₁.extBut _ _ c1 x)) he
  | some x =>
    have hy : ys[k2]? = none := by rcases hend with h | h; rw [hx] at h; cases h; exact h
    refine wpAny_bind (RZ.nextOf_tuple_item (h1.extBut hs₁.extBut D.i1z) (hl1.extBut hs₁.extBut D.l1z) hx fun h₂ h1₂ hs₂ => wpAny_pure (wpAny_pure ?_))
    refine wpAny_bind (wpAny_bind (wpAny_holding ?_))
    show wpAny _ _ (Builtin.SmallTypes.nextOf (.ref i2) >>= _) _ _ _
    refine wpAny_bind (RZ.nextOf_tuple_end hh ((h2.extBut hs₁.extBut D.i2z).extBut hs₂.extBut D.i12.symm)
      ((hl2.extBut hs₁.extBut D.l2z).extBut hs₂.extBut D.l2i1) hy fun h₃ e hs₃ he => ?_)
    exact hE h₃ e (fun c o c1 c3 c4 x => hs₃ _ _ c4 (hs₂.extBut _ _ c3 (hs₁.extBut _ _ c1 x))) he
/-- the zip's state: not yet asked, or a pair handed out -/
def ZSt (h : Heap) (z TI TO i1 i2 l1 l2 : Addr) (k : Nat) : Prop :=
  ((IsZip h z TI TO .none ∧ ∃ a b, IsPair h TO a b) ∨ ∃ t b ot, IsZipU h z TI TO t b ∧ h.get? t = some ot ∧ t ≠ z ∧ t ≠ TO ∧ t ≠ i1 ∧ t ≠ i2) ∧ IsPair h TI (.ref i1) (.ref i2) ∧ h.IsTupleIter i1 l1 k ∧ h.IsTupleIter i2 l2 k
theorem ZSt.lt {h : Heap} {z TI TO i1 i2 l1 l2 : Addr} {k : Nat} (st : ZSt h z TI TO i1 i2 l1 l2 k) : z < h.objs.size ∧ i1 < h.objs.size ∧ i2 < h.objs.size := by
  obtain ⟨a, b, ⟨o1, c1, _⟩, ⟨o2, c2, _⟩⟩ := st
  refine ⟨?_, Heap.lt_size c1, Heap.lt_size c2⟩
  rcases a with ⟨a, _⟩ | ⟨_, _, _, a, _⟩
  · exact Heap.lt_size a
  · exact Heap.lt_size a
theorem pyNext_z_item {z TI TO i1 i2 l1 l2 : Addr} {k : Nat} {xs ys : Array Value} {x y : Value} {Q : Option Value → Shared → Prop} (D : ZipApart z TI TO i1 i2 l1 l2)
    (st : ZSt s.heap z TI TO i1 i2 l1 l2 k) (hTOl : TO < s.heap.objs.size) (hl1 : s.heap.IsTuple l1 xs) (hl2 : s.heap.IsTuple l2 ys) (hx : xs[k]? = some x) (hy : ys[k]? = some y)
    (hQ : ∀ h', ZSt h' z TI TO i1 i2 l1 l2 (k + 1) → IsPair h' s.heap.objs.size x y → h'.objs.size = s.heap.objs.size + 1 →
      (∀ c o, c ≠ z → c ≠ TO → c ≠ i1 → c ≠ i2 → s.heap.get? c = some o → h'.get? c = some o) → Q (some (.ref s.heap.objs.size)) { s with heap := h' }) :
    wpAny (model prog w) A (pyNext (.ref z)) Q E s := by
  obtain ⟨lz, li1, li2⟩ := st.lt
  obtain ⟨a, hTI, h1, h2⟩ := st
  rcases a with ⟨hz, p, q, hTO⟩ | ⟨t, b, ot, hz, ht, n1, n2, n3, n4⟩
  · refine RZ.pyNext_zipT_item D hz hTI hTO h1 h2 hl1 hl2 hx hy fun h' a1 a2 a3 a4 a5 a6 a7 => hQ h' ⟨.inr ⟨_, false, _, a1, a5, ?_, ?_, ?_, ?_⟩, a7 _ _ D.TIz D.TITO D.TIi1 D.TIi2 hTI, a3, a4⟩ a5 a6 a7
    · exact Nat.ne_of_gt lz
    · exact Nat.ne_of_gt hTOl
    · exact Nat.ne_of_gt li1
    · exact Nat.ne_of_gt li2
  · have hT : s.TypeIs (.ref z) "zip" := ⟨_, hz, rfl⟩
    unfold pyNext
    exact wpAny_bind (wpAny_attempt (wpAny_callSpecial?_slot (name := Str.ofString "__next__") hT F.slot_zip_next
      (wpAny_call_entry F.slot_zip_next hT F.entry_zip_next
        (zipT_next_used D hz hTI ht h1 h2 hl1 hl2 hx hy fun h' a1 a3 a4 a5 a6 a7 => wpAny_pure (hQ h' ⟨.inr ⟨t, true, ot, a1, a7 _ _ n1 n3 n4 ht, n1, n2, n3, n4⟩, a7 _ _ D.TIz D.TIi1 D.TIi2 hTI, a3, a4⟩ a5 a6 fun c o c1 _ c3 c4 e => a7 c o c1 c3 c4 e)) (F.args_zip_next_1 _))))
theorem pyNext_z_end {z TI TO i1 i2 l1 l2 : Addr} {k : Nat} {xs ys : Array Value} {Q : Option Value → Shared → Prop} (hh : A.handled = none) (D : ZipApart z TI TO i1 i2 l1 l2)
    (st : ZSt s.heap z TI TO i1 i2 l1 l2 k) (hl1 : s.heap.IsTuple l1 xs) (hl2 : s.heap.IsTuple l2 ys) (hend : xs[k]? = none ∨ ys[k]? = none)
    (hQ : ∀ h', (∀ c o, c ≠ z → c ≠ TO → c ≠ i1 → c ≠ i2 → s.heap.get? c = some o → h'.get? c = some o) → Q none { s with heap := h' }) : wpAny (model prog w) A (pyNext (.ref z)) Q E s := by
  obtain ⟨a, hTI, h1, h2⟩ := st
  rcases a with ⟨hz, p, q, hTO⟩ | ⟨t, b, ot, hz, ht, n1, n2, n3, n4⟩
  · exact RZ.pyNext_zipT_end hh D hz hTI hTO h1 h2 hl1 hl2 hend hQ
  · have hT : s.TypeIs (.ref z) "zip" := ⟨_, hz, rfl⟩
    unfold pyNext
    refine wpAny_bind (wpAny_attempt (wpAny_callSpecial?_slot (name := Str.ofString "__next__") hT F.slot_zip_next
      (wpAny_call_entry F.slot_zip_next hT F.entry_zip_next (zipT_end_used hh D hz hTI ht h1 h2 hl1 hl2 hend fun h' e hk he => ?_) (F.args_zip_next_1 _))))
    obtain ⟨o, ho, hc⟩ := he
    refine wpAny_bind (wpAny_isInstance (T := "StopIteration") (b := true) ⟨o, ho, hc⟩ isSubtype_stop ?_)
    exact wpAny_pure (hQ _ fun c o c1 _ c3 c4 e => hk c o c1 c3 c4 e)
end
open L2 PyProof.Rows
theorem ZSt.keep {h h' : Heap} {z TI TO i1 i2 l1 l2 S : Addr} {k : Nat} (st : ZSt h z TI TO i1 i2 l1 l2 k) (n1 : S ≠ z) (n2 : S ≠ TI) (n3 : S ≠ TO) (n4 : S ≠ i1) (n5 : S ≠ i2) (hk : ∀ c o, c ≠ S → h.get? c = some o → h'.get? c = some o) (hS : ∃ o, h'.get? S = some o) : ZSt h' z TI TO i1 i2 l1 l2 k := by
  obtain ⟨a, hTI, h1, h2⟩ := st
  refine ⟨?_, hk _ _ n2.symm hTI, h1.at fun o e => hk _ o n4.symm e, h2.at fun o e => hk _ o n5.symm e⟩
  rcases a with ⟨hz, p, q, hTO⟩ | ⟨t, b, ot, hz, ht, m⟩
  · exact .inl ⟨hk _ _ n1.symm hz, p, q, hk _ _ n3.symm hTO⟩
  · by_cases e : t = S
    · obtain ⟨oS, hS⟩ := hS
      exact .inr ⟨t, b, oS, hk _ _ n1.symm hz, by rw [e]; exact hS, m⟩
    · exact .inr ⟨t, b, ot, hk _ _ n1.symm hz, hk _ _ e ht, m⟩
/-- pairs laid, one behind the other -/
def Pairs : Hp → List (V × V) → List Addr → Hp → Prop
  | H, [], [], H' => H' = H
  | H, p :: ps, T :: Ts, H' => H T = none ∧ Pairs (upd H T (.tup [p.1, p.2])) ps Ts H'
  | _, _, _, _ => False
abbrev LstO (acc : Array Value) (c : Nat) : Obj := { cls := .type "list", dict := none, data := .seq acc c, slots := #[] }
theorem ext_zip {X : Cx} {A : Around} {pins : List (Addr × Obj)} {σ : L2.St} {z TI TO i1 i2 a b S : Addr} {res : Value} {R : Result → Shared → Prop} (hA : A.in1.handled = none) (D : ZipApart z TI TO i1 i2 a b) (n1 : S ≠ z) (n2 : S ≠ TI) (n3 : S ≠ TO) (n4 : S ≠ i1) (n5 : S ≠ i2) {xs ys : List V} :
    ∀ (n k : Nat) (s : Shared) (H : Hp) (acc : Array Value) (c : Nat) (Ts : List Addr), min xs.length ys.length = k + n → Inv X pins σ H s → ZSt s.heap z TI TO i1 i2 a b k → TO < s.heap.objs.size → SqT X.K H a xs → SqT X.K H b ys → (∀ d ∈ [z, TO, i1, i2, S], FpOk X pins H d) →
      s.heap.get? S = some (LstO acc c) → acc.size = k → Vals (Ts.map V.ref) acc.toList →
      (∀ s' H' acc' c' Us, Inv X pins σ H' s' → Pairs H ((xs.drop k).zip (ys.drop k)) Us H' → s'.heap.get? S = some (LstO acc' c') → Vals ((Ts ++ Us).map V.ref) acc'.toList → R (.ok (.ret res)) s') →
      codeAny (model X.prog X.w) A (.builtin "list.extend.loop" ⟨[.ref S, .ref z, res], []⟩) R s
  | 0, k, s, H, acc, c, Ts, hn, I, st, hTO, hqx, hqy, hf, hS, hsz, hv, hR => by
    obtain ⟨its, rv, p, z1⟩ := I.tuple hqx
    obtain ⟨its2, rv2, p2, z2⟩ := I.tuple hqy
    have l1 := rv.length
    have l2 := rv2.length
    have he : its.toArray[k]? = none ∨ its2.toArray[k]? = none := by
      by_cases q : xs.length ≤ k
      · exact .inl (by simp; omega)
      · exact .inr (by simp; omega)
    refine codeAny_builtin F.entry_extend_loop ?_
    rw [Around.under_plainId F.plain_extend_loop _]
    show wpAny _ A.in1 (pyNext (.ref z) >>= _) _ _ s
    refine wpAny_bind (pyNext_z_end hA D st p p2 he fun h' hk => ?_)
    have I2 : Inv X pins σ H { s with heap := h' } := I.turnedL (t' := s.toks) (ch := [z, TO, i1, i2]) (fun d o hb q => hk d o (fun q' => hb (by simp [q'])) (fun q' => hb (by simp [q'])) (fun q' => hb (by simp [q'])) (fun q' => hb (by simp [q'])) q) fun d hd => hf d (by simp at hd ⊢; rcases hd with h | h | h | h <;> simp [h])
    refine wpAny_pure (hR _ H acc c [] I2 ?_ (hk S _ n1 n3 n4 n5 hS) (by rw [List.append_nil]; exact hv))
    have e : (xs.drop k).zip (ys.drop k) = [] := by
      apply List.eq_nil_of_length_eq_zero
      rw [List.length_zip, List.length_drop, List.length_drop]
      omega
    rw [e]
    rfl
  | n + 1, k, s, H, acc, c, Ts, hn, I, st, hTO, hqx, hqy, hf, hS, hsz, hv, hR => by
    obtain ⟨its, rv, p, z1⟩ := I.tuple hqx
    obtain ⟨its2, rv2, p2, z2⟩ := I.tuple hqy
    have l1 := rv.length
    have l2 := rv2.length
    have kx : k < xs.length := by omega
    have ky : k < ys.length := by omega
    obtain ⟨u, hu, ru⟩ := rv.get (List.getElem?_eq_getElem kx)
    obtain ⟨u2, hu2, ru2⟩ := rv2.get (List.getElem?_eq_getElem ky)
    refine codeAny_builtin F.entry_extend_loop ?_
    rw [Around.under_plainId F.plain_extend_loop _]
    show wpAny _ A.in1 (pyNext (.ref z) >>= _) _ _ s
    refine wpAny_bind (pyNext_z_item D st hTO p p2 (x := u) (y := u2) (by simpa using hu) (by simpa using hu2) fun h' st' hT hsz' hk => ?_)
    have hn0 : H s.heap.objs.size = none := I.hok.fresh (Nat.le_refl _)
    have new : ObjOk X.prog X.w (upd H s.heap.objs.size (.tup [xs[k], ys[k]])) h' s.heap.objs.size (.tup [xs[k], ys[k]]) :=
      ⟨by show 2 ≤ sizeLine; decide, [u, u2], .cons ru (.cons ru2 .nil), ⟨_, hT, rfl, _, rfl⟩⟩
    have I1 : Inv X pins σ (upd H s.heap.objs.size (.tup [xs[k], ys[k]])) { s with heap := h' } :=
      I.turnedNew (t' := s.toks) (ch := [z, TO, i1, i2]) (fun d o hb q => hk d o (fun q' => hb (by simp [q'])) (fun q' => hb (by simp [q'])) (fun q' => hb (by simp [q'])) (fun q' => hb (by simp [q'])) q) (fun d hd => hf d (by simp at hd ⊢; rcases hd with h | h | h | h <;> simp [h])) (Nat.le_refl _) new
    obtain ⟨lz, li1, li2⟩ := st.lt
    have lS := Heap.lt_size hS
    have hS' : h'.get? S = some (LstO acc c) := hk S _ n1 n3 n4 n5 hS
    have fp1 : ∀ d ∈ [z, TO, i1, i2, S], FpOk X pins (upd H s.heap.objs.size (.tup [xs[k], ys[k]])) d := fun d hd => by
      have hlt : d < s.heap.objs.size := by
        simp at hd
        rcases hd with h | h | h | h | h <;> rw [h] <;> assumption
      obtain ⟨q1, q2⟩ := hf d hd
      exact ⟨by rw [upd_ne (Nat.ne_of_lt hlt)]; exact q1, q2⟩
    have hacc : acc.size ≤ sizeLine := by
      rw [hsz]
      exact Nat.le_trans (Nat.le_of_lt kx) z1
    show wpAny _ A.in1 (updateSeq S (·.push (.ref s.heap.objs.size)) >>= _) _ _ _
    refine wpAny_bind (wpAny_updateSeq hS' rfl (wpAny_pure ⟨plainId_quiet F.plain_extend_loop _, ?_⟩) hacc (by show (acc.push _).size ≤ sizeLine + 1; rw [Array.size_push]; omega))
    obtain ⟨c2, hS2⟩ : ∃ c2, (h'.update S (Obj.mapSeq (·.push (.ref s.heap.objs.size)))).get? S = some (LstO (acc.push (.ref s.heap.objs.size)) c2) := ⟨_, Heap.get?_update_self _ hS' rfl⟩
    have kp : ∀ d o, d ≠ S → h'.get? d = some o → (h'.update S (Obj.mapSeq (·.push (.ref s.heap.objs.size)))).get? d = some o := fun d o hd e => (Heap.get?_update_other _ _ (fun q : S = d => hd q.symm)).trans e
    have I2 : Inv X pins σ (upd H s.heap.objs.size (.tup [xs[k], ys[k]])) { s with heap := h'.update S (Obj.mapSeq (·.push (.ref s.heap.objs.size))) } :=
      Inv.turnedL (s := { s with heap := h' }) (h' := h'.update S (Obj.mapSeq (·.push (.ref s.heap.objs.size)))) (t' := s.toks) (ch := [S]) I1 (fun d o hb q => kp d o (fun z => hb (by simp [z])) q) fun d hd => fp1 d (by simp at hd ⊢; simp [hd])
    have ex : Ext H (upd H s.heap.objs.size (.tup [xs[k], ys[k]])) := Ext.upd hn0
    refine ext_zip hA D n1 n2 n3 n4 n5 n (k + 1) _ _ _ _ (Ts ++ [s.heap.objs.size]) (by omega) I2 (st'.keep n1 n2 n3 n4 n5 kp ⟨_, hS2⟩) ?_ (hqx.ext ex) (hqy.ext ex) fp1 hS2 (by rw [Array.size_push, hsz]) ?_ fun s' H' acc' c' Us I3 hp hS3 hv3 => ?_
    · exact Nat.lt_of_lt_of_le hTO (by
        show s.heap.objs.size ≤ (h'.update S _).objs.size
        rw [show (h'.update S (Obj.mapSeq (·.push (.ref s.heap.objs.size)))).objs.size = h'.objs.size from (Heap.SameBut.update ..).1, hsz']
        exact Nat.le_succ _)
    · rw [List.map_append, Array.toList_push]
      exact hv.append (.cons rfl .nil)
    · refine hR s' H' acc' c' (s.heap.objs.size :: Us) I3 ?_ hS3 (by rw [List.append_assoc] at hv3; exact hv3)
      rw [List.drop_eq_getElem_cons kx, List.drop_eq_getElem_cons ky, List.zip_cons_cons]
      exact ⟨hn0, hp⟩
theorem zip_no_len : typeLookup (.type "zip") "__len__" = pure none := by rw [typeLookup_type, builtinLookup_eq_fast]; kernel_rfl
theorem zip_no_hint : typeLookup (.type "zip") "__length_hint__" = pure none := by rw [typeLookup_type, builtinLookup_eq_fast]; kernel_rfl
theorem ZSt.typeIs {s : Shared} {z TI TO i1 i2 l1 l2 : Addr} {k : Nat} (st : ZSt s.heap z TI TO i1 i2 l1 l2 k) : s.TypeIs (.ref z) "zip" := by
  obtain ⟨a, _⟩ := st
  rcases a with ⟨hz, _⟩ | ⟨_, _, _, hz, _⟩
  · exact ⟨_, hz, rfl⟩
  · exact ⟨_, hz, rfl⟩
theorem collect_zip {X : Cx} {A : Around} {E : Value → Shared → Prop} {pins : List (Addr × Obj)} {σ : L2.St} {s : Shared} {H : Hp} {z TI TO i1 i2 a b : Addr} {xs ys : List V} {Q : List Value → Shared → Prop} (hA : A.in1.handled = none) (D : ZipApart z TI TO i1 i2 a b)
    (I : Inv X pins σ H s) (hz : IsZip s.heap z TI TO .none) (hTO : ∃ x y, IsPair s.heap TO x y) (hTI : IsPair s.heap TI (.ref i1) (.ref i2)) (h1 : s.heap.IsTupleIter i1 a 0) (h2 : s.heap.IsTupleIter i2 b 0) (hqx : SqT X.K H a xs) (hqy : SqT X.K H b ys) (hf : ∀ d ∈ [z, TO, i1, i2], FpOk X pins H d)
    (hQ : ∀ s' H' acc Us, Inv X pins σ H' s' → Pairs H (xs.zip ys) Us H' → Vals (Us.map V.ref) acc → Q acc s') : wpAny (model X.prog X.w) A (collect (.ref z)) Q E s := by
  have lz : z < s.heap.objs.size := Heap.lt_size hz
  have lTO : TO < s.heap.objs.size := by obtain ⟨x, y, q⟩ := hTO; exact Heap.lt_size q
  have lTI : TI < s.heap.objs.size := Heap.lt_size hTI
  have l1 : i1 < s.heap.objs.size := by obtain ⟨_, q, _⟩ := h1; exact Heap.lt_size q
  have l2 : i2 < s.heap.objs.size := by obtain ⟨_, q, _⟩ := h2; exact Heap.lt_size q
  have hSI : s.heap.objs.size ≠ z := Nat.ne_of_gt lz
  unfold collect
  refine wpAny_bind (wpAny_runValue (codeAny_builtin F.entry_proto_collect ?_))
  rw [Around.under_plainId F.plain_proto_collect _]
  show wpAny _ A.in1 (newList [] >>= fun l => again (.builtin "list.__iadd__" ⟨[l, .ref z], []⟩)) _ _ s
  refine wpAny_bind (wpAny_newObj_type ?_)
  refine wpAny_pure ⟨plainId_quiet F.plain_list_iadd _, codeAny_builtin F.entry_list_iadd ?_⟩
  rw [Around.under_plainId F.plain_list_iadd _]
  have up : ∀ c o, s.heap.get? c = some o → (s.heap.push { cls := .type "list", data := .seq ([] : List Value).toArray }).get? c = some o := fun c o e => Heap.get?_push_of_some _ e
  have hT : ({ s with heap := s.heap.push { cls := .type "list", data := .seq ([] : List Value).toArray } } : Shared).TypeIs (.ref z) "zip" := ⟨_, up _ _ hz, rfl⟩
  show wpAny _ A.in1 (Builtin.List.listExtendWith (.ref s.heap.objs.size) (.ref z) (.ref s.heap.objs.size)) _ _ _
  unfold Builtin.List.listExtendWith
  refine wpAny_bind (wpAny_typeOf hT ?_)
  have e1 : Builtin.List.listSameRef (.ref s.heap.objs.size) (.ref z) = false := by simp [Builtin.List.listSameRef, hSI]
  have e2 : (Value.type "zip" == Value.type "list") = false := by decide
  have e3 : (Value.type "zip" == Value.type "tuple") = false := by decide
  simp only [e1, e2, e3, Bool.or_false, Bool.false_eq_true, if_false]
  refine wpAny_bind (wpAny_pyIter_zip (up _ _ hz) ?_)
  refine wpAny_bind (wpAny_holding ?_)
  unfold Builtin.List.listLengthHint
  refine wpAny_bind (wpAny_specialOf hT zip_no_len ?_)
  show wpAny _ A.in1 (specialOf (Value.ref z) (Str.ofString "__length_hint__") >>= _) _ _ _
  refine wpAny_bind (wpAny_specialOf hT zip_no_hint ?_)
  refine wpAny_pure ?_
  show wpAny _ A.in1 (rule "list.extend.makes-room" >>= fun _ => Builtin.List.listTouch (.ref s.heap.objs.size) >>= fun _ =>
    again (.builtin "list.extend.loop" ⟨[.ref s.heap.objs.size, .ref z, .ref s.heap.objs.size], []⟩)) _ _ _
  refine wpAny_bind (wpAny_rule ?_)
  have hS₁ : (s.heap.push { cls := .type "list", data := .seq ([] : List Value).toArray }).get? s.heap.objs.size = some { cls := .type "list", data := .seq ([] : List Value).toArray } := Heap.get?_push_size _ rfl
  refine wpAny_bind ?_
  show wpAny _ A.in1 (updateSeq s.heap.objs.size (·.push .none) >>= fun _ => updateSeq s.heap.objs.size (·.pop)) _ _ _
  refine wpAny_bind (wpAny_updateSeq hS₁ rfl ?_)
  have hS₂ := Heap.get?_update_self (Obj.mapSeq (·.push Value.none)) hS₁ rfl
  refine wpAny_updateSeq hS₂ rfl ?_
  have hS₃ := Heap.get?_update_self (Obj.mapSeq (·.pop)) hS₂ rfl
  have oth : ∀ b o, s.heap.get? b = some o →
      (((s.heap.push { cls := .type "list", data := .seq ([] : List Value).toArray }).update s.heap.objs.size (Obj.mapSeq (·.push Value.none))).update s.heap.objs.size (Obj.mapSeq (·.pop))).get? b = some o :=
    fun b o e => (Heap.get?_update_other _ _ (Nat.ne_of_gt (Heap.lt_size e))).trans ((Heap.get?_update_other _ _ (Nat.ne_of_gt (Heap.lt_size e))).trans (up b o e))
  have I2 := I.kept (h' := ((s.heap.push { cls := .type "list", data := .seq ([] : List Value).toArray }).update s.heap.objs.size (Obj.mapSeq (·.push Value.none))).update s.heap.objs.size (Obj.mapSeq (·.pop))) (t' := s.toks) oth
  obtain ⟨t1, t2, hTO⟩ := hTO
  have st : ZSt (((s.heap.push { cls := .type "list", data := .seq ([] : List Value).toArray }).update s.heap.objs.size (Obj.mapSeq (·.push Value.none))).update s.heap.objs.size (Obj.mapSeq (·.pop))) z TI TO i1 i2 a b 0 :=
    ⟨.inl ⟨oth _ _ hz, t1, t2, oth _ _ hTO⟩, oth _ _ hTI, h1.at fun o e => oth _ o e, h2.at fun o e => oth _ o e⟩
  refine wpAny_pure ⟨plainId_quiet F.plain_extend_loop _, ext_zip hA D hSI (Nat.ne_of_gt lTI) (Nat.ne_of_gt lTO) (Nat.ne_of_gt l1) (Nat.ne_of_gt l2) (min xs.length ys.length) 0 _ H #[] _ [] (by omega) I2 st (Heap.lt_size (oth _ _ hTO)) hqx hqy (fun d hd => ?_) hS₃ rfl .nil fun s' H' acc' c' Us I3 hp hS' hv => ?_⟩
  · by_cases e : d = s.heap.objs.size
    · rw [e]
      exact I.fpOk (Nat.le_refl _) (I.hok.fresh (Nat.le_refl _))
    · exact hf d (by simp at hd ⊢; rcases hd with h | h | h | h | h <;> simp [h] <;> exact absurd h e)
  · show wpAny _ A (load s.heap.objs.size >>= _) _ _ s'
    refine wpAny_bind (wpAny_load hS' ?_)
    exact wpAny_pure (hQ s' H' acc'.toList Us I3 hp hv)
section
variable {X : Cx} {A : Around} {E : Value → Shared → Prop} {pins : List (Addr × Obj)} {σ : L2.St} {s : Shared} {H : Hp} {z TI TO i1 i2 a b : Addr} {xs ys : List V}
theorem code_tuple_zip {Q₁ : Value → Shared → Prop} (hA : A.in1.in1.handled = none) (D : ZipApart z TI TO i1 i2 a b)
    (I : Inv X pins σ H s) (hz : IsZip s.heap z TI TO .none) (hTO : ∃ x y, IsPair s.heap TO x y) (hTI : IsPair s.heap TI (.ref i1) (.ref i2)) (h1 : s.heap.IsTupleIter i1 a 0) (h2 : s.heap.IsTupleIter i2 b 0) (hqx : SqT X.K H a xs) (hqy : SqT X.K H b ys) (hf : ∀ d ∈ [z, TO, i1, i2], FpOk X pins H d)
    (h : ∀ s' H' acc Us, Inv X pins σ H' s' → Pairs H (xs.zip ys) Us H' → Vals (Us.map V.ref) acc → Q₁ (.ref s'.heap.objs.size) { s' with heap := s'.heap.push { cls := .type "tuple", data := .seq acc.toArray } }) (hsz : ∀ Us : List Addr, ∀ H', Pairs H (xs.zip ys) Us H' → Us.length ≤ sizeLine) :
    codeAny (model X.prog X.w) A (.call (.builtin "tuple.__new__") ⟨[.type "tuple", .ref z], []⟩) (wants Q₁ E) s := by
  refine codeAny_of_tree ?_
  show wpAny _ A.in1 (do checkBuiltinCall "tuple.__new__" ⟨[.type "tuple", .ref z], []⟩; again (.builtin "tuple.__new__" ⟨[.type "tuple", .ref z], []⟩)) _ _ s
  refine wpAny_bind (wpAny_of_eq (F.newCall_tuple_1 _) (wpAny_pure ⟨plainId_quiet F.plain_tuple_new _, codeAny_builtin F.entry_tuple_new ?_⟩))
  rw [Around.under_plainId F.plain_tuple_new _]
  have hsub := sub_tuple_self
  have hinit := init_tuple_lookup
  have hmh := madeHere_tuple
  have hTI0 : s.TypeIs (.ref z) "zip" := ⟨_, hz, rfl⟩
  wp_walk using wpAny_typeOf hTI0, collect_zip hA D I hz hTO hTI h1 h2 hqx hqy hf
  intro s' H' acc Us I' hp hv
  show wpAny _ _ (Builtin.Tuple.tupleExact acc.toArray >>= fun v => ret v) _ _ _
  unfold Builtin.Tuple.tupleExact
  have hl : acc.length = Us.length := by
    have := hv.length
    rw [List.length_map] at this
    exact this.symm
  refine wpAny_bind (wpAny_newObj_type ?_ (by
    show acc.toArray.size ≤ sizeLine
    rw [List.size_toArray, hl]
    exact hsz Us H' hp))
  exact wpAny_pure (h s' H' acc Us I' hp hv)
theorem call_tuple_zip {Q : Value → Shared → Prop} (hA : A.in1.in1.in1.handled = none) (D : ZipApart z TI TO i1 i2 a b)
    (I : Inv X pins σ H s) (hz : IsZip s.heap z TI TO .none) (hTO : ∃ x y, IsPair s.heap TO x y) (hTI : IsPair s.heap TI (.ref i1) (.ref i2)) (h1 : s.heap.IsTupleIter i1 a 0) (h2 : s.heap.IsTupleIter i2 b 0) (hqx : SqT X.K H a xs) (hqy : SqT X.K H b ys) (hf : ∀ d ∈ [z, TO, i1, i2], FpOk X pins H d)
    (h : ∀ s' H' acc Us, Inv X pins σ H' s' → Pairs H (xs.zip ys) Us H' → Vals (Us.map V.ref) acc → Q (.ref s'.heap.objs.size) { s' with heap := s'.heap.push { cls := .type "tuple", data := .seq acc.toArray } }) (hsz : ∀ Us : List Addr, ∀ H', Pairs H (xs.zip ys) Us H' → Us.length ≤ sizeLine) :
    wpAny (model X.prog X.w) A (call (.type "tuple") [.ref z]) Q E s := by
  refine callType_codes (Q₁ := fun obj s₁ => s₁.TypeIs obj "tuple" ∧ Q obj s₁) F.called_tuple (F.typeCall_tuple_1 _) F.entry_object_init
    (code_tuple_zip hA D I hz hTO hTI h1 h2 hqx hqy hf (fun s' H' acc Us I' hp hv => ⟨⟨_, Heap.get?_push_size _ rfl, rfl⟩, h s' H' acc Us I' hp hv⟩) hsz) fun obj s₁ h₁ => ?_
  exact ⟨h₁.1, F.args_object_init_2 obj _, object_init_meets F.called_tuple.init.lookup F.called_tuple.made (by decide) X.prog X.w A.in1 _ s₁ ⟨h₁.1, rfl, h₁.2⟩⟩
end
theorem pairs_len : ∀ (ps : List (V × V)) (Us : List Addr) (H H' : Hp), Pairs H ps Us H' → Us.length = ps.length
  | [], [], _, _, _ => rfl
  | [], _ :: _, _, _, h => h.elim
  | _ :: _, [], _, _, h => h.elim
  | p :: ps, T :: Ts, H, H', h => by rw [List.length_cons, List.length_cons, pairs_len ps Ts _ _ h.2]
/-- tuple(zip(a, b)), both tuples -/
def tTupZip (K : PySem.W.Frag) (ta : TA) : TE := fun σ H Q => ta σ H fun vs H1 => ∃ a b xs ys, vs = [.ref a, .ref b] ∧ SqT K H1 a xs ∧ SqT K H1 b ys ∧ ∀ Us H2 q, Pairs H1 (xs.zip ys) Us H2 → H2 q = none → Q (.ref q) (upd H2 q (.tup (Us.map V.ref)))
theorem pe_tupZip {X : Cx} {e e2 : Expr} {ta : TA} {p p2 pos pos2 : Pos} (hc : X.calm = true) (hg : Gl X "tuple") (hm : X.mg "tuple" = none) (hg2 : Gl X "zip") (hm2 : X.mg "zip" = none) (ha : PA X [e, e2] ta)
    (hs : starEach [e, e2] X.env = (false, eval e X.env) :: starEach [e2] X.env := by rfl) (hpl : (backTo pos2 (starEach [e2] X.env)).any (·.1) = false := by rfl)
    (hs2 : starEach [.Call (.Name "zip" p2) [e, e2] [] pos2] X.env = (false, eval (.Call (.Name "zip" p2) [e, e2] [] pos2) X.env) :: starEach [] X.env := by rfl) :
    PE X (.Call (.Name "tuple" p) [.Call (.Name "zip" p2) [e, e2] [] pos2] [] pos) (tTupZip X.K ta) := by
  refine ⟨fun pins s σ H Q I h => ?_⟩
  refine Call_ (ld_blt I hg hm boot_tuple (PyProof.Rows.callWith_type1 (args_cons (Call_ (ld_blt I hg2 hm2 PyProof.Rows.boot_zip (PyProof.Rows.callWith_type1 (thn (ha.run pos2 pins s σ H _ I h) fun us s1 ⟨vs, H1, I1, r1, q1⟩ => ?_) hs hpl))) hs2) hs2 rfl))
  obtain ⟨a, b, xs, ys, ex, hqx, hqy, q⟩ := q1
  subst ex
  cases r1 with
  | cons r rr =>
    cases rr with
    | cons r' rr =>
      cases rr
      cases r
      cases r'
      obtain ⟨its, rv, p1, z1⟩ := I1.tuple hqx
      obtain ⟨its2, rv2, p2', _⟩ := I1.tuple hqy
      obtain ⟨o1, ho1, _⟩ := id p1
      obtain ⟨o2, ho2, _⟩ := id p2'
      have fresh4 : ∀ c, c ∈ [s1.heap.objs.size + 4, s1.heap.objs.size + 3, s1.heap.objs.size, s1.heap.objs.size + 1] → FpOk X pins H1 c := fun c hcm => by
        have hle : s1.heap.objs.size ≤ c := by
          simp at hcm
          omega
        exact I1.fpOk hle (I1.hok.fresh hle)
      refine RZ.call_zipT (show s1.heap.IsTuple a its.toArray from p1) (show s1.heap.IsTuple b its2.toArray from p2') fun h' hz hTI hTO h1 h2 hsz hk => args_nil ?_
      have I2 : Inv X pins σ H1 { s1 with heap := h' } := I1.kept (t' := s1.toks) hk
      refine call_tuple_zip (s := { s1 with heap := h' }) (I1.ok.hd hc) (PySem.W.ktu_apart s1.heap.objs.size a b (Heap.lt_size ho1) (Heap.lt_size ho2)) I2 hz ⟨_, _, hTO⟩ hTI h1 h2 hqx hqy fresh4 (fun s' H' acc Us I3 hp hv => ?_) fun Us H' hp => ?_
      · have hl : (Us.map V.ref).length ≤ sizeLine := by
          rw [List.length_map, pairs_len _ _ _ _ hp, List.length_zip]
          exact Nat.le_trans (Nat.min_le_left _ _) z1
        refine ⟨.ref s'.heap.objs.size, upd H' s'.heap.objs.size (.tup (Us.map V.ref)), I3.laid (t' := s'.toks) (fun c o e => Heap.get?_push_of_some _ e) (Nat.le_refl _) (show ObjOk X.prog X.w _ _ _ (.tup (Us.map V.ref)) from ⟨hl, acc, hv, IsTup.new _ _⟩), rfl, q Us H' _ hp (I3.hok.fresh (Nat.le_refl _))⟩
      · rw [pairs_len _ _ _ _ hp, List.length_zip]
        exact Nat.le_trans (Nat.min_le_left _ _) z1
end TZ
namespace Mi
open PySem PySem.Spec PyProof.Rows L2
/-- tuple(zip(a, b)) of two tuples -/
def fTZip (vs : List PV) (st : Sto) : Res PV := match vs with
  | [.tup xs, .tup ys] => .ok (.tup (zV xs ys)) st
  | _ => .bad
theorem pairs_stp {W : Wd} {ρ : Nat → Addr} {st : Sto} : ∀ (ps qs : List PV) (vs ws : List V) (H H2 : Hp) (Us : List Addr), RSt W H ρ st → RVs W H ρ st.length ps vs → RVs W H ρ st.length qs ws → TZ.Pairs H (vs.zip ws) Us H2 → Stp W H ρ st.length H2 ρ st ∧ RVs W H2 ρ st.length (zV ps qs) (Us.map V.ref)
  | [], qs, vs, ws, H, H2, Us, r, h1, h2, hp => by
    obtain rfl : vs = [] := h1
    cases Us with
    | nil =>
      obtain rfl : H2 = H := hp
      exact ⟨.refl r, rfl⟩
    | cons T Us => exact hp.elim
  | p :: ps, [], vs, ws, H, H2, Us, r, h1, h2, hp => by
    obtain rfl : ws = [] := h2
    rw [List.zip_nil_right] at hp
    cases Us with
    | nil =>
      obtain rfl : H2 = H := hp
      exact ⟨.refl r, rfl⟩
    | cons T Us => exact hp.elim
  | p :: ps, q :: qs, vs, ws, H, H2, Us, r, h1, h2, hp => by
    obtain ⟨v, vs, rfl, a1, a2⟩ := h1
    obtain ⟨w, ws, rfl, b1, b2⟩ := h2
    cases Us with
    | nil => exact hp.elim
    | cons T Us =>
      obtain ⟨hT, hp⟩ := hp
      have s1 : Stp W H ρ st.length (upd H T (.tup [v, w])) ρ st := .newT r hT
      obtain ⟨s2, r2⟩ := pairs_stp ps qs vs ws _ H2 Us s1.rs (s1.rvs a2) (s1.rvs b2) hp
      exact ⟨s1.trans s2, _, _, rfl, s2.rv (rv_two hT a1 b1), r2⟩
theorem xe_tupZip {X : Cx} {J : Jx} {e e2 : Expr} {dl : DL} {p p2 pos pos2 : Pos} (J2 : XK2 X J) (hg : Gl X "tuple") (hm : X.mg "tuple" = none) (hg2 : Gl X "zip") (hm2 : X.mg "zip" = none) (ha : PA X [e, e2] (rdL J dl))
    (hs : starEach [e, e2] X.env = (false, eval e X.env) :: starEach [e2] X.env := by rfl) (hpl : (backTo pos2 (starEach [e2] X.env)).any (·.1) = false := by rfl)
    (hs2 : starEach [.Call (.Name "zip" p2) [e, e2] [] pos2] X.env = (false, eval (.Call (.Name "zip" p2) [e, e2] [] pos2) X.env) :: starEach [] X.env := by rfl) :
    PE X (.Call (.Name "tuple" p) [.Call (.Name "zip" p2) [e, e2] [] pos2] [] pos) (rdE J (dApp fTZip dl)) :=
  PE.imp (TZ.pe_tupZip J2.cm hg hm hg2 hm2 ha hs hpl hs2) fun σ H Q h => rd_bind J2.st h fun ρ th env st ps xs H1 S rv g => by
    unfold fTZip at g
    split at g
    · obtain ⟨y, z, rfl, ⟨a, vs, rfl, q, hv⟩, ⟨b, ws, rfl, q', hw⟩⟩ := rv.two
      refine ⟨a, b, vs, ws, rfl, by rw [← J2.K]; exact q, by rw [← J2.K]; exact q', fun Us H2 t hp ht => ?_⟩
      obtain ⟨s2, r2⟩ := pairs_stp _ _ vs ws H1 H2 Us S.rs hv hw hp
      exact g _ ρ _ (s2.trans (.newT s2.rs ht)) (rv_newT ht r2)
    · exact g.elim
end Mi
end
section
set_option maxRecDepth 100000
set_option maxHeartbeats 4000000
noncomputable section
namespace K15
open PySem PySem.Spec PyProof.Rows L2 Mi
/-! ### polys -/
def okCs (as : List Int) : Bool := Nat.ble as.length 1000 && as.all fun a => decide (0 ≤ a) && decide (a < 997)
def tz (f : List Int) : Nat → Nat
  | 0 => 0
  | n + 1 => match decide (f.getD n 0 = 0) with
    | true => tz f n
    | false => n + 1
def trimI (f : List Int) : List Int := f.take (tz f f.length)
def addRow (x : Int) : List Int → List Int → List Int
  | f, [] => f
  | [], _ => []
  | a :: f, y :: ys => (a + x * y) % 997 :: addRow x f ys
def addAt : Nat → Int → List Int → List Int → List Int
  | 0, x, f, ys => addRow x f ys
  | k + 1, x, a :: f, ys => a :: addAt k x f ys
  | _ + 1, _, [], _ => []
def prodF (bs : List Int) : Nat → List Int → List Int → List Int
  | _, [], f => f
  | k, a :: as, f => prodF bs (k + 1) as (addAt k a f bs)
def s_product_in : Fn := fun ps st => match ps with
  | [.tup xs, .tup ys] => match intsOf xs, intsOf ys with
    | some as, some bs => if (okCs as && okCs bs) = true then .ok (.tup ((trimI (prodF bs 0 as (List.replicate (as.length + bs.length) 0))).map .int)) st else .bad
    | _, _ => .bad
  | _ => .bad
def cellB (c : Int) : Bool := decide (0 ≤ c) && decide (c < 997)
def horn (c : Int) : List Int → Int → Int
  | [], f => f
  | a :: r, f => horn c r ((f * c + a) % 997)
def s_value_in : Fn := fun ps st => match ps with
  | [.tup xs, .int c] => match intsOf xs with
    | some as => if (okCs as && cellB c) = true then .ok (.int (horn c as.reverse 0)) st else .bad
    | none => .bad
  | _ => .bad
def s_scaled_in : Fn := fun ps st => match ps with
  | [.tup xs, .int c] => match intsOf xs with
    | some as => if (okCs as && cellB c) = true then .ok (.tup ((trimI (as.map fun a => a * c % 997)).map .int)) st else .bad
    | none => .bad
  | _ => .bad
def padI (n : Nat) (l : List Int) : List Int := l ++ List.replicate (n - l.length) 0
def zipA : List Int → List Int → List Int
  | a :: as, b :: bs => (a + b) % 997 :: zipA as bs
  | _, _ => []
def maxN (a b : Nat) : Nat := match Nat.ble a b with
  | true => b
  | false => a
def s_sum_in : Fn := fun ps st => match ps with
  | [.tup xs, .tup ys] => match intsOf xs, intsOf ys with
    | some as, some bs => if (okCs as && okCs bs) = true then .ok (.tup ((trimI (zipA (padI (maxN as.length bs.length) as) (padI (maxN as.length bs.length) bs))).map .int)) st else .bad
    | _, _ => .bad
  | _ => .bad
/-! ### what the package's and the law's defs answer -/
/-- a text's sign -/
def sgB (c : Nat) : Bool := decide (32 ≤ c) && decide (c ≤ 126)
def okT (x : List Nat) : Bool := Nat.ble x.length 60000 && x.all sgB
def digB (c : Nat) : Bool := decide (48 ≤ c) && decide (c ≤ 57)
/-- three figures, read -/
def v3 : List Nat → Int
  | [p, q, r] => ((100 * (p - 48) + 10 * (q - 48) + (r - 48) : Nat) : Int)
  | _ => 0
/-- the numbers of a text of figures -/
def nums (x : List Nat) : Nat → Nat → List Int
  | _, 0 => []
  | i, n + 1 => v3 ((x.drop (3 * i)).take 3) :: nums x (i + 1) n
/-- the cells that a text tells -/
def told (x : List Nat) : Option (List Int) := if (x.length % 3 == 0 && x.all digB && (nums x 0 (x.length / 3)).all fun v => decide (v < 997)) = true then some (nums x 0 (x.length / 3)) else none
def optT : Option (List Int) → PV
  | some vs => .tup (vs.map .int)
  | none => .non
/-- the cells of the window at a place -/
def winV (x : List Nat) (p : Nat) : Option (List Int) := if (x[p]? == some 35 && x[p + 121]? == some 59) = true then told ((x.drop (p + 1)).take 120) else none
def winsFrom (x : List Nat) : Nat → Nat → List (Nat × List Int)
  | _, 0 => []
  | p, k + 1 => match winV x p with
    | some c => (p, c) :: winsFrom x (p + 1) k
    | none => winsFrom x (p + 1) k
def wins (x : List Nat) : List (Nat × List Int) := winsFrom x 0 x.length
def wPV (w : Nat × List Int) : PV := .tup [.int w.1, .tup (w.2.map .int)]
def s_is_text : Fn := fun ps st => match ps with
  | [p] => match tyOf st p with
    | some .str => match p with
      | .str x => if Nat.ble x.length 60000 = true then .ok (.bl (x.all sgB)) st else .bad
      | _ => .bad
    | some _ => .ok (.bl false) st
    | none => .bad
  | _ => .bad
def eText : Ex := ⟨0, none⟩
def eCells : Ex := ⟨1, none⟩
def eNum (p : PV) : Ex := ⟨2, some ("given", p)⟩
def eMany : Ex := ⟨3, some ("most", .int 60000)⟩
/-- may it pass as a text -/
def reqJ (p : PV) (st : Sto) : Option Bool := match tyOf st p with
  | some .str => match p with
    | .str x => if Nat.ble x.length 60000 = true then some (x.all sgB) else none
    | _ => none
  | some _ => some false
  | none => none
/-- may it pass as a number between two bounds -/
def numJ (p : PV) (lo hi : Int) (st : Sto) : Option Bool := match tyOf st p with
  | some .int => match p with
    | .int i => some (decide (lo ≤ i) && decide (i ≤ hi))
    | _ => none
  | some _ => some false
  | none => none
def s_require_text : Fn := fun ps st => match ps with
  | [p] => match reqJ p st with
    | some true => .ok .non st
    | some false => .exc eText st
    | none => .bad
  | _ => .bad
def s_cells_told : Fn := fun ps st => match ps with
  | [.str x] => if okT x = true then .ok (optT (told x)) st else .bad
  | _ => .bad
def s_window_at : Fn := fun ps st => match ps with
  | [.str x, .int i] => if (okT x && decide (0 ≤ i) && decide (i < x.length)) = true then .ok (optT (winV x i.toNat)) st else .bad
  | _ => .bad
def s_windows_found : Fn := fun ps st => match ps with
  | [.str x] => if okT x = true then .ok (.ref st.length) (st ++ [.lst ((wins x).map wPV)]) else .bad
  | _ => .bad
/-! ### what the defs do -/
def tabM : List (List Bool) := [[false, true, false, false], [true, false, false, false], [false, false, true, false], [false, false, false, true]]
def subM : Nat → Nat → Bool := subT tabM
def hsM : List (Nat × Hd) := [(0, hC [98, 111, 100, 121]), (1, hC [116, 101, 120, 116]), (2, hC [111, 112, 101, 114, 97, 116, 105, 111, 110]), (3, hF 3 [110, 117, 109, 98, 101, 114, 32] "given")]
def aftM : PV := (.str [102, 105, 110, 101])
def d_is_whole : DS := dRet (dAnd (dUn (fIsi .int) (dVar 0)) (dNot (dUn (fIsi .bool) (dVar 0))))
def m_is_whole : Fn := mkF 1 d_is_whole
def f_is_whole : Fn := m_is_whole
def d_is_within : DS := dRet (dAnd (dCall 1 f_is_whole (dCons (dVar 0) (dNil))) (dChain pLe pLe (dVar 1) (dVar 0) (dVar 2)))
def m_is_within : Fn := mkF 3 d_is_within
def f_is_within : Fn := m_is_within
def d_require_within : DS := dIfS (dNotT (dTst (dCall 3 f_is_within (dCons (dVar 0) (dCons (dVar 1) (dCons (dVar 2) (dNil))))))) (dRaise1 3 "given" (dVar 0)) (dSkip)
def m_require_within : Fn := mkF 3 d_require_within
def f_require_within : Fn := m_require_within
def d_is_cell : DS := dRet (dCall 3 f_is_within (dCons (dVar 0) (dCons (dC (.int 0)) (dCons (dC (.int 996)) (dNil)))))
def m_is_cell : Fn := mkF 1 d_is_cell
def f_is_cell : Fn := m_is_cell
def bo_are_cells_in_0 : DE := dCall 1 f_is_cell (dCons (dVar 3) (dNil))
def d_are_cells_in : DS := dSeq (dIfS (dOrT (dNotT (dTst (dUn (fIsi .tuple) (dVar 0)))) (dNotT (dTB (dChain pLe pLe (dVar 1) (dApp fLen (dCons (dVar 0) (dNil))) (dVar 2))))) (dRet (dC (.bl false))) (dSkip)) (dRet (dApp fAll (dCons (dLc (dIt (dVar 0)) (.nm 3) (dYes) (bo_are_cells_in_0) [3]) (dNil))))
def m_are_cells_in : Fn := mkF 4 d_are_cells_in
def f_are_cells_in : Fn := m_are_cells_in
def bo_back_of_0 : DB := dTB (dBin pGt (dVar 3) (dC (.int 0)))
def bo_back_of_1 : DS := dSeq (dIfS (dTB (dBin pEq (dBin pMod (dVar 3) (dC (.int 2))) (dC (.int 1)))) (dSet (.nm 1) (dBin pMod (dBin pMul (dVar 1) (dVar 2)) (dC (.int 997)))) (dSkip)) (dPar 2 3 (dBin pMod (dBin pMul (dVar 2) (dVar 2)) (dC (.int 997))) (dBin pFdiv (dVar 3) (dC (.int 2))))
def d_back_of : DS := dSeq (dPar3 1 2 3 (dC (.int 1)) (dBin pMod (dVar 0) (dC (.int 997))) (dBin pSub (dC (.int 997)) (dC (.int 2)))) (dSeq (dWhile (bo_back_of_0) (bo_back_of_1) 100000) (dRet (dVar 1)))
def m_back_of : Fn := mkF 4 d_back_of
def f_back_of : Fn := m_back_of
def bo_trimmed_0 : DB := dAndT (dTB (dBin pGt (dVar 1) (dC (.int 0)))) (dTB (dBin pEq (dBin pIx (dVar 0) (dBin pSub (dVar 1) (dC (.int 1)))) (dC (.int 0))))
def bo_trimmed_1 : DS := dAug pSubI 1 (dC (.int 1))
def d_trimmed : DS := dSeq (dSet (.nm 1) (dApp fLen (dCons (dVar 0) (dNil)))) (dSeq (dWhile (bo_trimmed_0) (bo_trimmed_1) 100000) (dRet (dApp fTuple (dCons (dSl (dVar 0) (dNoP) (dPt (dVar 1))) (dNil)))))
def m_trimmed : Fn := mkF 2 d_trimmed
def f_trimmed : Fn := m_trimmed
def bo_value_in_0 : DS := dSet (.nm 2) (dBin pMod (dBin pAdd (dBin pMul (dVar 2) (dVar 1)) (dVar 3)) (dC (.int 997)))
def d_value_in : DS := dSeq (dSet (.nm 2) (dC (.int 0))) (dSeq (dFor (dIt (dUn fRevT (dVar 0))) (.nm 3) bo_value_in_0) (dRet (dVar 2)))
def m_value_in : Fn := mkF 4 d_value_in
abbrev f_value_in : Fn := s_value_in
def bo_sum_in_0 : DE := dBin pMod (dBin pAdd (dVar 6) (dVar 7)) (dC (.int 997))
def bo_sum_in_1 : DE := dApp fLst (dStar (dVar 5) (dStar (dBin pMul (dApp fLst (dCons (dC (.int 0)) (dNil))) (dBin pSub (dVar 2) (dApp fLen (dCons (dVar 5) (dNil))))) (dNil)))
def d_sum_in : DS := dSeq (dSet (.nm 2) (dApp fMax (dCons (dApp fLen (dCons (dVar 0) (dNil))) (dCons (dApp fLen (dCons (dVar 1) (dNil))) (dNil))))) (dSeq (dUnL [.nm 3, .nm 4] (dLc (dIt (dApp fTup (dCons (dVar 0) (dCons (dVar 1) (dNil))))) (.nm 5) (dYes) (bo_sum_in_1) [5])) (dRet (dCall 1 f_trimmed (dCons (dLc (dRng fZip (dCons (dVar 3) (dCons (dVar 4) (dNil)))) (.tp [.nm 6, .nm 7]) (dYes) (bo_sum_in_0) [6, 7]) (dNil)))))
def m_sum_in : Fn := mkF 8 d_sum_in
abbrev f_sum_in : Fn := s_sum_in
def bo_scaled_in_0 : DE := dBin pMod (dBin pMul (dVar 2) (dVar 1)) (dC (.int 997))
def d_scaled_in : DS := dRet (dCall 1 f_trimmed (dCons (dLc (dIt (dVar 0)) (.nm 2) (dYes) (bo_scaled_in_0) [2]) (dNil)))
def m_scaled_in : Fn := mkF 3 d_scaled_in
abbrev f_scaled_in : Fn := s_scaled_in
def bo_product_in_0 : DS := dSub pSetL (dVar 2) (dBin pAdd (dVar 3) (dVar 5)) (dBin pMod (dBin pAdd (dBin pIx (dVar 2) (dBin pAdd (dVar 3) (dVar 5))) (dBin pMul (dVar 4) (dVar 6))) (dC (.int 997)))
def bo_product_in_1 : DS := dFor (dRng fEn (dCons (dVar 1) (dNil))) (.tp [.nm 5, .nm 6]) bo_product_in_0
def d_product_in : DS := dSeq (dSet (.nm 2) (dBin pMul (dApp fLst (dCons (dC (.int 0)) (dNil))) (dBin pAdd (dApp fLen (dCons (dVar 0) (dNil))) (dApp fLen (dCons (dVar 1) (dNil)))))) (dSeq (dFor (dRng fEn (dCons (dVar 0) (dNil))) (.tp [.nm 3, .nm 4]) bo_product_in_1) (dRet (dCall 1 f_trimmed (dCons (dVar 2) (dNil)))))
def m_product_in : Fn := mkF 7 d_product_in
abbrev f_product_in : Fn := s_product_in
def bo_none_in_0 : DS := dSet (.nm 1) (dCall 2 f_product_in (dCons (dVar 1) (dCons (dApp fTup (dCons (dBin pMod (dBin pSub (dC (.int 997)) (dVar 2)) (dC (.int 997))) (dCons (dC (.int 1)) (dNil)))) (dNil))))
def d_none_in : DS := dSeq (dSet (.nm 1) (dApp fTup (dCons (dC (.int 1)) (dNil)))) (dSeq (dFor (dIt (dVar 0)) (.nm 2) bo_none_in_0) (dRet (dVar 1)))
def m_none_in : Fn := mkF 3 d_none_in
def f_none_in : Fn := m_none_in
def bo_through_in_0 : DS := dSeq (dSet (.nm 5) (dBin pMod (dBin pMul (dBin pSub (dVar 4) (dCall 2 f_value_in (dCons (dVar 1) (dCons (dVar 3) (dNil))))) (dCall 1 f_back_of (dCons (dCall 2 f_value_in (dCons (dVar 2) (dCons (dVar 3) (dNil)))) (dNil)))) (dC (.int 997)))) (dSeq (dSet (.nm 1) (dCall 2 f_sum_in (dCons (dVar 1) (dCons (dCall 2 f_scaled_in (dCons (dVar 2) (dCons (dVar 5) (dNil)))) (dNil))))) (dSet (.nm 2) (dCall 2 f_product_in (dCons (dVar 2) (dCons (dApp fTup (dCons (dBin pMod (dBin pSub (dC (.int 997)) (dVar 3)) (dC (.int 997))) (dCons (dC (.int 1)) (dNil)))) (dNil))))))
def d_through_in : DS := dSeq (dSet (.tp [.nm 1, .nm 2]) (dApp fTup (dCons (dApp fTup (dNil)) (dCons (dApp fTup (dCons (dC (.int 1)) (dNil))) (dNil))))) (dSeq (dFor (dIt (dVar 0)) (.tp [.nm 3, .nm 4]) bo_through_in_0) (dRet (dVar 1)))
def m_through_in : Fn := mkF 6 d_through_in
def f_through_in : Fn := m_through_in
def bo_is_ascending_within_0 : DE := dBin pLt (dVar 2) (dVar 3)
def bo_is_ascending_within_1 : DE := dCall 3 f_is_within (dCons (dVar 2) (dCons (dC (.int 0)) (dCons (dBin pSub (dVar 1) (dC (.int 1))) (dNil))))
def d_is_ascending_within : DS := dSeq (dIfS (dOrT (dNotT (dTst (dUn (fIsi .tuple) (dVar 0)))) (dNotT (dTst (dApp fAll (dCons (dLc (dIt (dVar 0)) (.nm 2) (dYes) (bo_is_ascending_within_1) [2]) (dNil)))))) (dRet (dC (.bl false))) (dSkip)) (dRet (dApp fAll (dCons (dLc (dRng fZip (dCons (dVar 0) (dCons (dSl (dVar 0) (dPt (dC (.int 1))) (dNoP)) (dNil)))) (.tp [.nm 2, .nm 3]) (dYes) (bo_is_ascending_within_0) [2, 3]) (dNil))))
def m_is_ascending_within : Fn := mkF 4 d_is_ascending_within
def f_is_ascending_within : Fn := m_is_ascending_within
def bo_text_in_0 : DE := dUn fFmt (dVar 1)
def d_text_in : DS := dRet (dMet isStr mJoin (dC (.str [])) (dCons (dLc (dIt (dVar 0)) (.nm 1) (dYes) (bo_text_in_0) [1]) (dNil)))
def m_text_in : Fn := mkF 2 d_text_in
def f_text_in : Fn := m_text_in
def bo_cells_told_0 : DE := dBin pLt (dVar 4) (dC (.int 997))
def bo_cells_told_1 : DE := dApp fIntX (dCons (dSl (dVar 0) (dPt (dVar 3)) (dPt (dBin pAdd (dVar 3) (dC (.int 3))))) (dNil))
def bo_cells_told_2 : DE := dBin pInK (dVar 2) (dC (.str [48, 49, 50, 51, 52, 53, 54, 55, 56, 57]))
def d_cells_told : DS := dSeq (dIfS (dOrT (dTB (dBin pNe (dBin pMod (dApp fLen (dCons (dVar 0) (dNil))) (dC (.int 3))) (dC (.int 0)))) (dNotT (dTst (dApp fAll (dCons (dLc (dIt (dVar 0)) (.nm 2) (dYes) (bo_cells_told_2) [2]) (dNil)))))) (dRet (dC .non)) (dSkip)) (dSeq (dSet (.nm 1) (dApp fTuple (dCons (dLc (dRng fRng3 (dCons (dC (.int 0)) (dCons (dApp fLen (dCons (dVar 0) (dNil))) (dCons (dC (.int 3)) (dNil))))) (.nm 3) (dYes) (bo_cells_told_1) [3]) (dNil)))) (dRet (dIf (dTst (dApp fAll (dCons (dLc (dIt (dVar 1)) (.nm 4) (dYes) (bo_cells_told_0) [4]) (dNil)))) (dVar 1) (dC .non))))
def m_cells_told : Fn := mkF 5 d_cells_told
abbrev f_cells_told : Fn := s_cells_told
def d_window_at : DS := dSeq (dSet (.nm 2) (dSl (dVar 0) (dPt (dVar 1)) (dPt (dBin pAdd (dVar 1) (dC (.int 122)))))) (dSeq (dIfS (dOrT (dTB (dBin pLt (dApp fLen (dCons (dVar 2) (dNil))) (dC (.int 122)))) (dOrT (dTB (dBin pNe (dBin pIx (dVar 2) (dC (.int 0))) (dC (.str [35])))) (dTB (dBin pNe (dBin pIx (dVar 2) (dUn pNeg (dC (.int 1)))) (dC (.str [59])))))) (dRet (dC .non)) (dSkip)) (dRet (dCall 1 f_cells_told (dCons (dSl (dVar 2) (dPt (dC (.int 1))) (dPt (dUn pNeg (dC (.int 1))))) (dNil)))))
def m_window_at : Fn := mkF 3 d_window_at
abbrev f_window_at : Fn := s_window_at
def bo_windows_found_0 : DB := dTB (dBin pGe (dVar 2) (dC (.int 0)))
def bo_windows_found_1 : DS := dSeq (dSet (.nm 3) (dCall 2 f_window_at (dCons (dVar 0) (dCons (dVar 2) (dNil))))) (dSeq (dIfS (dTB (dBin pNotN (dVar 3) (dC .non))) (dExp (dMet isLst mAppend (dVar 1) (dCons (dApp fTup (dCons (dVar 2) (dCons (dVar 3) (dNil)))) (dNil)))) (dSkip)) (dSet (.nm 2) (dMet isStr mFind3 (dVar 0) (dCons (dC (.str [35])) (dCons (dBin pAdd (dVar 2) (dC (.int 1))) (dNil))))))
def d_windows_found : DS := dSeq (dPar 1 2 (dApp fLst (dNil)) (dMet isStr mFind (dVar 0) (dCons (dC (.str [35])) (dNil)))) (dSeq (dWhile (bo_windows_found_0) (bo_windows_found_1) 100000) (dRet (dVar 1)))
def m_windows_found : Fn := mkF 4 d_windows_found
abbrev f_windows_found : Fn := s_windows_found
def bo_is_text_0 : DE := dChain pLe pLe (dC (.str [32])) (dVar 1) (dC (.str [126]))
def d_is_text : DS := dSeq (dIfS (dOrT (dNotT (dTst (dUn (fIsi .str) (dVar 0)))) (dTB (dBin pGt (dApp fLen (dCons (dVar 0) (dNil))) (dC (.int 60000))))) (dRet (dC (.bl false))) (dSkip)) (dRet (dApp fAll (dCons (dLc (dIt (dVar 0)) (.nm 1) (dYes) (bo_is_text_0) [1]) (dNil))))
def m_is_text : Fn := mkF 2 d_is_text
abbrev f_is_text : Fn := s_is_text
def d_require_text : DS := dIfS (dNotT (dTst (dCall 1 f_is_text (dCons (dVar 0) (dNil))))) (dRaise0 0) (dSkip)
def m_require_text : Fn := mkF 1 d_require_text
abbrev f_require_text : Fn := s_require_text
def d_poly_of : DS := dRet (dCall 1 f_through_in (dCons (dApp fTZip (dCons (dSl (dC (.tup [(.int (1)), (.int (4)), (.int (9)), (.int (16)), (.int (25)), (.int (36)), (.int (49)), (.int (64)), (.int (81)), (.int (100)), (.int (121)), (.int (144)), (.int (169)), (.int (196)), (.int (225)), (.int (256)), (.int (289)), (.int (324)), (.int (361)), (.int (400)), (.int (441)), (.int (484)), (.int (529)), (.int (576)), (.int (625)), (.int (676)), (.int (729)), (.int (784)), (.int (841)), (.int (900)), (.int (961)), (.int (27)), (.int (92)), (.int (159)), (.int (228)), (.int (299)), (.int (372)), (.int (447)), (.int (524)), (.int (603))])) (dNoP) (dPt (dC (.int 20)))) (dCons (dVar 0) (dNil)))) (dNil)))
def m_poly_of : Fn := mkF 1 d_poly_of
def f_poly_of : Fn := m_poly_of
def bo_cells_of_0 : DE := dCall 2 f_value_in (dCons (dVar 1) (dCons (dVar 2) (dNil)))
def d_cells_of : DS := dSeq (dSet (.nm 1) (dCall 1 f_poly_of (dCons (dVar 0) (dNil)))) (dRet (dApp fTup (dStar (dVar 0) (dStar (dLc (dIt (dSl (dC (.tup [(.int (1)), (.int (4)), (.int (9)), (.int (16)), (.int (25)), (.int (36)), (.int (49)), (.int (64)), (.int (81)), (.int (100)), (.int (121)), (.int (144)), (.int (169)), (.int (196)), (.int (225)), (.int (256)), (.int (289)), (.int (324)), (.int (361)), (.int (400)), (.int (441)), (.int (484)), (.int (529)), (.int (576)), (.int (625)), (.int (676)), (.int (729)), (.int (784)), (.int (841)), (.int (900)), (.int (961)), (.int (27)), (.int (92)), (.int (159)), (.int (228)), (.int (299)), (.int (372)), (.int (447)), (.int (524)), (.int (603))])) (dPt (dC (.int 20))) (dNoP))) (.nm 2) (dYes) (bo_cells_of_0) [2]) (dNil)))))
def m_cells_of : Fn := mkF 3 d_cells_of
def f_cells_of : Fn := m_cells_of
def d_text_of : DS := dRet (dBin pAdd (dBin pAdd (dC (.str [35])) (dCall 1 f_text_in (dCons (dCall 1 f_cells_of (dCons (dVar 0) (dNil))) (dNil)))) (dC (.str [59])))
def m_text_of : Fn := mkF 1 d_text_of
def f_text_of : Fn := m_text_of
def d_is_frame_of : DS := dRet (dAnd (dBin pNotN (dVar 0) (dC .non)) (dNoE))
def m_is_frame_of : Fn := mkF 1 d_is_frame_of
def f_is_frame_of : Fn := m_is_frame_of
def bo_found_in_0 : DE := dNoE
def d_found_in : DS := dRet (dLc (dIt (dCall 1 f_windows_found (dCons (dVar 0) (dNil)))) (.tp [.nm 1, .nm 2]) (dNoT) (bo_found_in_0) [1, 2])
def m_found_in : Fn := mkF 3 d_found_in
def f_found_in : Fn := m_found_in
def d_is_body_form : DS := dRet (dCall 3 f_are_cells_in (dCons (dVar 0) (dCons (dC (.int 20)) (dCons (dC (.int 20)) (dNil)))))
def m_is_body_form : Fn := mkF 1 d_is_body_form
def f_is_body_form : Fn := m_is_body_form
def d_require_body_form : DS := dIfS (dNotT (dTst (dCall 1 f_is_body_form (dCons (dVar 0) (dNil))))) (dRaise0 1) (dSkip)
def m_require_body_form : Fn := mkF 1 d_require_body_form
def f_require_body_form : Fn := m_require_body_form
def d_require_indices : DS := dIfS (dNotT (dTst (dCall 2 f_is_ascending_within (dCons (dVar 0) (dCons (dC (.int 40)) (dNil)))))) (dRaise0 2) (dSkip)
def m_require_indices : Fn := mkF 1 d_require_indices
def f_require_indices : Fn := m_require_indices
def d_require_body_and_indices : DS := dSeq (dExp (dCall 1 f_require_body_form (dCons (dVar 0) (dNil)))) (dSeq (dExp (dCall 1 f_require_indices (dCons (dVar 1) (dNil)))) (dIfS (dTB (dBin pGt (dApp fLen (dCons (dVar 1) (dNil))) (dC (.int 19)))) (dRaise0 2) (dSkip)))
def m_require_body_and_indices : Fn := mkF 2 d_require_body_and_indices
def f_require_body_and_indices : Fn := m_require_body_and_indices
def d_made_frame : DS := dSeq (dExp (dCall 1 f_require_body_form (dCons (dVar 0) (dNil)))) (dNever)
def m_made_frame : Fn := mkF 1 d_made_frame
def f_made_frame : Fn := m_made_frame
def d_frame_cells : DS := dSeq (dExp (dCall 1 f_require_body_form (dCons (dVar 0) (dNil)))) (dNever)
def m_frame_cells : Fn := mkF 1 d_frame_cells
def f_frame_cells : Fn := m_frame_cells
def d_told_frame : DS := dSeq (dExp (dCall 1 f_require_text (dCons (dVar 0) (dNil)))) (dSeq (dSet (.nm 1) (dIf (dTB (dBin pEq (dApp fLen (dCons (dVar 0) (dNil))) (dC (.int 122)))) (dCall 2 f_window_at (dCons (dVar 0) (dCons (dC (.int 0)) (dNil)))) (dC .non))) (dRet (dIf (dTst (dCall 1 f_is_frame_of (dCons (dVar 1) (dNil)))) (dNoE) (dC .non))))
def m_told_frame : Fn := mkF 2 d_told_frame
def f_told_frame : Fn := m_told_frame
def d_found_frames : DS := dSeq (dExp (dCall 1 f_require_text (dCons (dVar 0) (dNil)))) (dRet (dApp fTuple (dCons (dCall 1 f_found_in (dCons (dVar 0) (dNil))) (dNil))))
def m_found_frames : Fn := mkF 1 d_found_frames
def f_found_frames : Fn := m_found_frames
def bo_bodies_in_0 : DE := dNoE
def bo_bodies_in_1 : DE := dNoE
def d_bodies_in : DS := dSeq (dExp (dCall 1 f_require_text (dCons (dVar 0) (dNil)))) (dRet (dApp fTuple (dCons (dApp fSortD (dCons (dDc (dIt (dCall 1 f_found_in (dCons (dVar 0) (dNil)))) (.tp [.nm 1, .nm 2]) (dYes) (bo_bodies_in_0) (bo_bodies_in_1) [1, 2]) (dNil))) (dNil))))
def m_bodies_in : Fn := mkF 3 d_bodies_in
def f_bodies_in : Fn := m_bodies_in
def d_agreeing : DS := dSeq (dExp (dCall 1 f_require_body_form (dCons (dVar 0) (dNil)))) (dSeq (dExp (dCall 1 f_require_body_form (dCons (dVar 1) (dNil)))) (dNever))
def m_agreeing : Fn := mkF 2 d_agreeing
def f_agreeing : Fn := m_agreeing
def bo_other_body_0 : DE := dCall 2 f_value_in (dCons (dVar 2) (dCons (dVar 4) (dNil)))
def bo_other_body_1 : DE := dBin pIx (dC (.tup [(.int (1)), (.int (4)), (.int (9)), (.int (16)), (.int (25)), (.int (36)), (.int (49)), (.int (64)), (.int (81)), (.int (100)), (.int (121)), (.int (144)), (.int (169)), (.int (196)), (.int (225)), (.int (256)), (.int (289)), (.int (324)), (.int (361)), (.int (400)), (.int (441)), (.int (484)), (.int (529)), (.int (576)), (.int (625)), (.int (676)), (.int (729)), (.int (784)), (.int (841)), (.int (900)), (.int (961)), (.int (27)), (.int (92)), (.int (159)), (.int (228)), (.int (299)), (.int (372)), (.int (447)), (.int (524)), (.int (603))])) (dVar 3)
def d_other_body : DS := dSeq (dExp (dCall 2 f_require_body_and_indices (dCons (dVar 0) (dCons (dVar 1) (dNil))))) (dSeq (dSet (.nm 2) (dCall 2 f_sum_in (dCons (dCall 1 f_poly_of (dCons (dVar 0) (dNil))) (dCons (dCall 1 f_none_in (dCons (dLc (dIt (dVar 1)) (.nm 3) (dYes) (bo_other_body_1) [3]) (dNil))) (dNil))))) (dRet (dApp fTuple (dCons (dLc (dIt (dSl (dC (.tup [(.int (1)), (.int (4)), (.int (9)), (.int (16)), (.int (25)), (.int (36)), (.int (49)), (.int (64)), (.int (81)), (.int (100)), (.int (121)), (.int (144)), (.int (169)), (.int (196)), (.int (225)), (.int (256)), (.int (289)), (.int (324)), (.int (361)), (.int (400)), (.int (441)), (.int (484)), (.int (529)), (.int (576)), (.int (625)), (.int (676)), (.int (729)), (.int (784)), (.int (841)), (.int (900)), (.int (961)), (.int (27)), (.int (92)), (.int (159)), (.int (228)), (.int (299)), (.int (372)), (.int (447)), (.int (524)), (.int (603))])) (dNoP) (dPt (dC (.int 20))))) (.nm 4) (dYes) (bo_other_body_0) [4]) (dNil)))))
def m_other_body : Fn := mkF 5 d_other_body
def f_other_body : Fn := m_other_body
def d_is_other_body : DS := dSeq (dExp (dCall 2 f_require_body_and_indices (dCons (dVar 0) (dCons (dVar 1) (dNil))))) (dNever)
def m_is_other_body : Fn := mkF 3 d_is_other_body
def f_is_other_body : Fn := m_is_other_body
def d_spliced : DS := dSeq (dExp (dCall 1 f_require_body_form (dCons (dVar 0) (dNil)))) (dSeq (dExp (dCall 1 f_require_body_form (dCons (dVar 1) (dNil)))) (dSeq (dExp (dCall 3 f_require_within (dCons (dVar 2) (dCons (dC (.int 0)) (dCons (dC (.int 122)) (dNil)))))) (dRet (dBin pAdd (dSl (dCall 1 f_text_of (dCons (dVar 0) (dNil))) (dNoP) (dPt (dVar 2))) (dSl (dCall 1 f_text_of (dCons (dVar 1) (dNil))) (dPt (dVar 2)) (dNoP))))))
def m_spliced : Fn := mkF 3 d_spliced
def f_spliced : Fn := m_spliced
def d__law_churn : DS := dSeq (dSet (.nm 2) (dIf (dTB (dBin pLt (dVar 1) (dApp fLen (dCons (dVar 0) (dNil))))) (dApp fIntX (dCons (dBin pIx (dVar 0) (dVar 1)) (dNil))) (dBin pAdd (dBin pMul (dC (.int 223)) (dVar 1)) (dC (.int 101))))) (dSeq (dSet (.nm 3) (dBin pMod (dApp fIntX (dCons (dApp fAbs (dCons (dVar 2) (dNil))) (dNil))) (dBin pMul (dBin pPow (dC (.int 10)) (dC (.int 54))) (dBin pPow (dC (.int 10)) (dC (.int 58)))))) (dSeq (dSet (.nm 4) (dBin pAdd (dBin pAdd (dBin pAdd (dBin pMul (dBin pMod (dVar 3) (dC (.int 2305843009213693907))) (dC (.int 79))) (dBin pMul (dC (.int 1213)) (dVar 1))) (dBin pMul (dC (.int 43)) (dApp fIntX (dCons (dBin pLt (dVar 2) (dC (.int 0))) (dNil))))) (dC (.int 37)))) (dRet (dApp fLst (dCons (dApp fMax (dCons (dC (.int 0)) (dCons (dBin pSub (dVar 3) (dBin pPow (dC (.int 10)) (dC (.int 16)))) (dNil)))) (dCons (dBin pMod (dApp fIntX (dCons (dVar 4) (dNil))) (dC (.int 1152921504606846883))) (dCons (dC (.int 0)) (dNil))))))))
def m__law_churn : Fn := mkF 5 d__law_churn
def f__law_churn : Fn := m__law_churn
def d__law_ladle : DS := dSeq (dIfS (dTB (dBin pGt (dBin pIx (dVar 0) (dC (.int 0))) (dC (.int 0)))) (dSeq (dSet (.nm 4) (dBin pMod (dApp fIntX (dCons (dBin pIx (dVar 0) (dC (.int 0))) (dNil))) (dVar 1))) (dSeq (dSub pSetL (dVar 0) (dC (.int 0)) (dBin pFdiv (dBin pIx (dVar 0) (dC (.int 0))) (dVar 1))) (dRet (dVar 4)))) (dSkip)) (dSeq (dSub pSetL (dVar 0) (dC (.int 2)) (dBin pAdd (dBin pIx (dVar 0) (dC (.int 2))) (dC (.int 1)))) (dSeq (dSet (.nm 2) (dBin pMod (dApp fIntX (dCons (dBin pAdd (dBin pIx (dVar 0) (dC (.int 1))) (dBin pMul (dC (.int 49979693)) (dBin pIx (dVar 0) (dC (.int 2))))) (dNil))) (dC (.int 2305843009213693951)))) (dSeq (dSet (.nm 3) (dBin pAdd (dBin pMul (dBin pMod (dApp fIntX (dCons (dBin pAdd (dBin pMul (dVar 2) (dVar 2)) (dBin pMul (dC (.int 107)) (dBin pIx (dVar 0) (dC (.int 2))))) (dNil))) (dC (.int 2305843009213693921))) (dC (.int 32452843))) (dVar 2))) (dRet (dBin pMod (dApp fIntX (dCons (dBin pFdiv (dVar 3) (dC (.int 65543))) (dNil))) (dVar 1))))))
def m__law_ladle : Fn := mkF 5 d__law_ladle
def f__law_ladle : Fn := m__law_ladle
def d__law_spoon : DS := dRet (dBin pIx (dVar 1) (dCall 2 f__law_ladle (dCons (dVar 0) (dCons (dApp fLen (dCons (dVar 1) (dNil))) (dNil)))))
def m__law_spoon : Fn := mkF 2 d__law_spoon
def f__law_spoon : Fn := m__law_spoon
def ftab : FTab := fun j => match j with | 0 => some (2, f_other_body) | 1 => some (2, f_agreeing) | 2 => some (1, f_frame_cells) | 3 => some (1, f_made_frame) | 4 => some (1, f_bodies_in) | 5 => some (1, f_found_frames) | 6 => some (1, f_told_frame) | _ => none
def bo__law_bodies_right_0 : DS := dExp (dMet isLst mAppend (dVar 5) (dCons (dGcE (dLam subM hsM aftM (dCallV ftab 6 (dCons (dVar 1) (dCons (dC .non) (dNil)))))) (dNil)))
def bo__law_bodies_right_1 : DS := dExp (dMet isLst mAppend (dVar 5) (dCons (dGcE (dLam subM hsM aftM (dCallV ftab 6 (dCons (dVar 1) (dNil))))) (dNil)))
def d__law_bodies_right : DS := dSeq (dSet (.nm 1) (dCall 2 f__law_spoon (dCons (dVar 0) (dCons (dApp fLst (dCons (dC .non) (dCons (dC (.int 0)) (dCons (dBin pMul (dApp fLst (dCons (dC (.int 0)) (dNil))) (dC (.int 20))) (dCons (dBin pMul (dApp fTup (dCons (dC (.int 0)) (dNil))) (dC (.int 19))) (dCons (dBin pMul (dApp fTup (dCons (dC (.int 0)) (dNil))) (dC (.int 21))) (dCons (dBin pMul (dApp fTup (dCons (dC (.int 997)) (dNil))) (dC (.int 20))) (dCons (dBin pMul (dApp fTup (dCons (dUn pNeg (dC (.int 1))) (dNil))) (dC (.int 20))) (dCons (dBin pMul (dApp fTup (dCons (dC (.bl true)) (dNil))) (dC (.int 20))) (dCons (dBin pMul (dApp fTup (dCons (dC (.str [49])) (dNil))) (dC (.int 20))) (dCons (dDict0) (dNil)))))))))))) (dNil))))) (dSeq (dSet (.nm 2) (dCall 2 f__law_spoon (dCons (dVar 0) (dCons (dApp fLst (dCons (dC .non) (dCons (dC (.int 0)) (dCons (dApp fLst (dCons (dC (.int 1)) (dNil))) (dCons (dApp fTup (dCons (dC (.int 1)) (dCons (dC (.int 1)) (dNil)))) (dCons (dApp fTup (dCons (dC (.int 2)) (dCons (dC (.int 1)) (dNil)))) (dCons (dApp fTup (dCons (dC (.int 40)) (dNil))) (dCons (dApp fTup (dCons (dUn pNeg (dC (.int 1))) (dNil))) (dCons (dApp fTup (dCons (dC (.bl true)) (dNil))) (dCons (dApp fTup (dCons (dC (.str [49])) (dNil))) (dCons (dDict0) (dCons (dApp fTup (dCons (dBin pPow (dC (.int 10)) (dC (.int 60))) (dNil))) (dNil))))))))))))) (dNil))))) (dSeq (dSet (.nm 3) (dCall 2 f__law_spoon (dCons (dVar 0) (dCons (dApp fLst (dCons (dC .non) (dCons (dUn pNeg (dC (.int 1))) (dCons (dC (.int 123)) (dCons (dC (.bl true)) (dCons (dC (.str [49])) (dCons (dApp fTup (dCons (dC (.int 1)) (dNil))) (dCons (dBin pPow (dC (.int 10)) (dC (.int 60))) (dNil))))))))) (dNil))))) (dSeq (dSet (.nm 4) (dBin pMul (dApp fTup (dCons (dC (.int 1)) (dNil))) (dC (.int 20)))) (dSeq (dSet (.nm 5) (dApp fLst (dNil))) (dSeq (dFor (dIt (dApp fTup (dCons (dC (.fn 3)) (dCons (dC (.fn 2)) (dNil))))) (.nm 6) bo__law_bodies_right_1) (dSeq (dFor (dIt (dApp fTup (dCons (dC (.fn 1)) (dCons (dC (.fn 0)) (dNil))))) (.nm 6) bo__law_bodies_right_0) (dSeq (dExp (dMet isLst mAppend (dVar 5) (dCons (dGcE (dLam subM hsM aftM (dCall 2 f_agreeing (dCons (dVar 4) (dCons (dVar 1) (dNil)))))) (dNil)))) (dSeq (dExp (dMet isLst mAppend (dVar 5) (dCons (dGcE (dLam subM hsM aftM (dCall 3 f_is_other_body (dCons (dVar 1) (dCons (dVar 2) (dCons (dC .non) (dNil))))))) (dNil)))) (dSeq (dExp (dMet isLst mAppend (dVar 5) (dCons (dGcE (dLam subM hsM aftM (dCall 3 f_spliced (dCons (dVar 1) (dCons (dVar 1) (dCons (dVar 3) (dNil))))))) (dNil)))) (dSeq (dExp (dMet isLst mAppend (dVar 5) (dCons (dGcE (dLam subM hsM aftM (dCall 3 f_spliced (dCons (dVar 4) (dCons (dVar 1) (dCons (dVar 3) (dNil))))))) (dNil)))) (dSeq (dExp (dMet isLst mAppend (dVar 5) (dCons (dGcE (dLam subM hsM aftM (dCall 2 f_other_body (dCons (dVar 4) (dCons (dVar 2) (dNil)))))) (dNil)))) (dSeq (dExp (dMet isLst mAppend (dVar 5) (dCons (dGcE (dLam subM hsM aftM (dCall 3 f_is_other_body (dCons (dVar 4) (dCons (dVar 2) (dCons (dVar 4) (dNil))))))) (dNil)))) (dSeq (dExp (dMet isLst mAppend (dVar 5) (dCons (dGcE (dLam subM hsM aftM (dCall 2 f_other_body (dCons (dVar 4) (dCons (dBin fTupR (dC (.int 0)) (dC (.int 20))) (dNil)))))) (dNil)))) (dSeq (dExp (dMet isLst mAppend (dVar 5) (dCons (dGcE (dLam subM hsM aftM (dCall 3 f_is_other_body (dCons (dVar 4) (dCons (dBin fTupR (dC (.int 20)) (dC (.int 40))) (dCons (dC .non) (dNil))))))) (dNil)))) (dSeq (dExp (dMet isLst mAppend (dVar 5) (dCons (dGcE (dLam subM hsM aftM (dCall 3 f_spliced (dCons (dVar 4) (dCons (dVar 4) (dCons (dVar 3) (dNil))))))) (dNil)))) (dSeq (dExp (dMet isLst mAppend (dVar 5) (dCons (dGcE (dLam subM hsM aftM (dCall 3 f_spliced (dCons (dVar 4) (dCons (dVar 4) (dCons (dC (.int 122)) (dNil))))))) (dNil)))) (dRet (dBin pEq (dVar 5) (dBin pAdd (dBin pAdd (dBin pMul (dApp fLst (dCons (dC (.str [98, 111, 100, 121])) (dNil))) (dC (.int 8))) (dBin pMul (dApp fLst (dCons (dC (.str [111, 112, 101, 114, 97, 116, 105, 111, 110])) (dNil))) (dC (.int 4)))) (dApp fLst (dCons (dBin pAdd (dC (.str [110, 117, 109, 98, 101, 114, 32])) (dApp fRepr (dCons (dVar 3) (dNil)))) (dCons (dC (.str [102, 105, 110, 101])) (dNil)))))))))))))))))))))))
def m__law_bodies_right : Fn := mkF 7 d__law_bodies_right
def f__law_bodies_right : Fn := gcF m__law_bodies_right
def bo__law_texts_right_0 : DS := dExp (dMet isLst mAppend (dVar 2) (dCons (dGcE (dLam subM hsM aftM (dCallV ftab 3 (dCons (dBin pMul (dC (.str [35, 59])) (dBin pAdd (dC (.int 1)) (dCall 2 f__law_ladle (dCons (dVar 0) (dCons (dC (.int 90)) (dNil)))))) (dNil))))) (dNil)))
def bo__law_texts_right_1 : DS := dExp (dMet isLst mAppend (dVar 2) (dCons (dGcE (dLam subM hsM aftM (dCallV ftab 3 (dCons (dVar 1) (dNil))))) (dNil)))
def d__law_texts_right : DS := dSeq (dSet (.nm 1) (dCall 2 f__law_spoon (dCons (dVar 0) (dCons (dApp fLst (dCons (dC .non) (dCons (dC (.int 0)) (dCons (dApp fLst (dCons (dC (.str [35])) (dNil))) (dCons (dApp fTup (dCons (dC (.str [35])) (dNil))) (dCons (dDict0) (dCons (dC (.bl true)) (dCons (dBin pPow (dC (.int 10)) (dC (.int 60))) (dNil))))))))) (dNil))))) (dSeq (dSet (.nm 2) (dApp fLst (dNil))) (dSeq (dFor (dIt (dApp fTup (dCons (dC (.fn 6)) (dCons (dC (.fn 5)) (dCons (dC (.fn 4)) (dNil)))))) (.nm 3) bo__law_texts_right_1) (dSeq (dFor (dIt (dApp fTup (dCons (dC (.fn 6)) (dCons (dC (.fn 5)) (dCons (dC (.fn 4)) (dNil)))))) (.nm 3) bo__law_texts_right_0) (dRet (dBin pEq (dVar 2) (dBin pAdd (dBin pMul (dApp fLst (dCons (dC (.str [116, 101, 120, 116])) (dNil))) (dC (.int 3))) (dBin pMul (dApp fLst (dCons (dC (.str [102, 105, 110, 101])) (dNil))) (dC (.int 3)))))))))
def m__law_texts_right : Fn := mkF 4 d__law_texts_right
def f__law_texts_right : Fn := gcF m__law_texts_right
def bo_law_0 : DS := gcS (dExp (dMet isLst mAppend (dVar 2) (dCons (dGcE (dLam subM hsM aftM (dCallV ftab 3 (dCons (dBin pMul (dC (.str [48])) (dC (.int 60000))) (dNil))))) (dNil))))
def bo_law_1 : DS := gcS (dSeq (dSet (.nm 4) (dCall 2 f__law_churn (dCons (dVar 0) (dCons (dVar 1) (dNil))))) (dIfS (dOrT (dNotT (dTst (dCall 1 f__law_bodies_right (dCons (dVar 4) (dNil))))) (dNotT (dTst (dCall 1 f__law_texts_right (dCons (dVar 4) (dNil)))))) (dNever) (dSkip)))
def d_law : DS := dSeq (dFor (dRng fRng1 (dCons (dApp fMax (dCons (dC (.int 1)) (dCons (dApp fMin (dCons (dC (.int 4)) (dCons (dApp fLen (dCons (dVar 0) (dNil))) (dNil)))) (dNil)))) (dNil))) (.nm 1) bo_law_1) (dSeq (dSet (.nm 2) (dApp fLst (dCons (dGcE (dLam subM hsM aftM (dCall 2 f_other_body (dCons (dBin pMul (dApp fTup (dCons (dC (.int 996)) (dNil))) (dC (.int 20))) (dCons (dBin fTupR (dC (.int 21)) (dC (.int 40))) (dNil)))))) (dNil)))) (dSeq (dExp (dMet isLst mAppend (dVar 2) (dCons (dGcE (dLam subM hsM aftM (dCall 2 f_other_body (dCons (dBin pMul (dApp fTup (dCons (dC (.int 0)) (dNil))) (dC (.int 20))) (dCons (dApp fTup (dNil)) (dNil)))))) (dNil)))) (dSeq (dFor (dIt (dApp fTup (dCons (dC (.fn 6)) (dCons (dC (.fn 5)) (dCons (dC (.fn 4)) (dNil)))))) (.nm 3) bo_law_0) (dRet (dBin pEq (dVar 2) (dBin pMul (dApp fLst (dCons (dC (.str [102, 105, 110, 101])) (dNil))) (dC (.int 5))))))))
def m_law : Fn := mkF 5 d_law
def f_law : Fn := m_law
def q_d__law_bodies_right_0 : DS := dSet (.nm 1) (dCall 2 f__law_spoon (dCons (dVar 0) (dCons (dApp fLst (dCons (dC .non) (dCons (dC (.int 0)) (dCons (dBin pMul (dApp fLst (dCons (dC (.int 0)) (dNil))) (dC (.int 20))) (dCons (dBin pMul (dApp fTup (dCons (dC (.int 0)) (dNil))) (dC (.int 19))) (dCons (dBin pMul (dApp fTup (dCons (dC (.int 0)) (dNil))) (dC (.int 21))) (dCons (dBin pMul (dApp fTup (dCons (dC (.int 997)) (dNil))) (dC (.int 20))) (dCons (dBin pMul (dApp fTup (dCons (dUn pNeg (dC (.int 1))) (dNil))) (dC (.int 20))) (dCons (dBin pMul (dApp fTup (dCons (dC (.bl true)) (dNil))) (dC (.int 20))) (dCons (dBin pMul (dApp fTup (dCons (dC (.str [49])) (dNil))) (dC (.int 20))) (dCons (dDict0) (dNil)))))))))))) (dNil))))
def q_d__law_bodies_right_1 : DS := dSet (.nm 2) (dCall 2 f__law_spoon (dCons (dVar 0) (dCons (dApp fLst (dCons (dC .non) (dCons (dC (.int 0)) (dCons (dApp fLst (dCons (dC (.int 1)) (dNil))) (dCons (dApp fTup (dCons (dC (.int 1)) (dCons (dC (.int 1)) (dNil)))) (dCons (dApp fTup (dCons (dC (.int 2)) (dCons (dC (.int 1)) (dNil)))) (dCons (dApp fTup (dCons (dC (.int 40)) (dNil))) (dCons (dApp fTup (dCons (dUn pNeg (dC (.int 1))) (dNil))) (dCons (dApp fTup (dCons (dC (.bl true)) (dNil))) (dCons (dApp fTup (dCons (dC (.str [49])) (dNil))) (dCons (dDict0) (dCons (dApp fTup (dCons (dBin pPow (dC (.int 10)) (dC (.int 60))) (dNil))) (dNil))))))))))))) (dNil))))
def q_d__law_bodies_right_2 : DS := dSet (.nm 3) (dCall 2 f__law_spoon (dCons (dVar 0) (dCons (dApp fLst (dCons (dC .non) (dCons (dUn pNeg (dC (.int 1))) (dCons (dC (.int 123)) (dCons (dC (.bl true)) (dCons (dC (.str [49])) (dCons (dApp fTup (dCons (dC (.int 1)) (dNil))) (dCons (dBin pPow (dC (.int 10)) (dC (.int 60))) (dNil))))))))) (dNil))))
def q_d__law_bodies_right_3 : DS := dSet (.nm 4) (dBin pMul (dApp fTup (dCons (dC (.int 1)) (dNil))) (dC (.int 20)))
def q_d__law_bodies_right_4 : DS := dSet (.nm 5) (dApp fLst (dNil))
def q_d__law_bodies_right_5 : DS := dFor (dIt (dApp fTup (dCons (dC (.fn 3)) (dCons (dC (.fn 2)) (dNil))))) (.nm 6) bo__law_bodies_right_1
def q_d__law_bodies_right_6 : DS := dFor (dIt (dApp fTup (dCons (dC (.fn 1)) (dCons (dC (.fn 0)) (dNil))))) (.nm 6) bo__law_bodies_right_0
def q_d__law_bodies_right_7 : DS := dExp (dMet isLst mAppend (dVar 5) (dCons (dGcE (dLam subM hsM aftM (dCall 2 f_agreeing (dCons (dVar 4) (dCons (dVar 1) (dNil)))))) (dNil)))
def q_d__law_bodies_right_8 : DS := dExp (dMet isLst mAppend (dVar 5) (dCons (dGcE (dLam subM hsM aftM (dCall 3 f_is_other_body (dCons (dVar 1) (dCons (dVar 2) (dCons (dC .non) (dNil))))))) (dNil)))
def q_d__law_bodies_right_9 : DS := dExp (dMet isLst mAppend (dVar 5) (dCons (dGcE (dLam subM hsM aftM (dCall 3 f_spliced (dCons (dVar 1) (dCons (dVar 1) (dCons (dVar 3) (dNil))))))) (dNil)))
def q_d__law_bodies_right_10 : DS := dExp (dMet isLst mAppend (dVar 5) (dCons (dGcE (dLam subM hsM aftM (dCall 3 f_spliced (dCons (dVar 4) (dCons (dVar 1) (dCons (dVar 3) (dNil))))))) (dNil)))
def q_d__law_bodies_right_11 : DS := dExp (dMet isLst mAppend (dVar 5) (dCons (dGcE (dLam subM hsM aftM (dCall 2 f_other_body (dCons (dVar 4) (dCons (dVar 2) (dNil)))))) (dNil)))
def q_d__law_bodies_right_12 : DS := dExp (dMet isLst mAppend (dVar 5) (dCons (dGcE (dLam subM hsM aftM (dCall 3 f_is_other_body (dCons (dVar 4) (dCons (dVar 2) (dCons (dVar 4) (dNil))))))) (dNil)))
def q_d__law_bodies_right_13 : DS := dExp (dMet isLst mAppend (dVar 5) (dCons (dGcE (dLam subM hsM aftM (dCall 2 f_other_body (dCons (dVar 4) (dCons (dBin fTupR (dC (.int 0)) (dC (.int 20))) (dNil)))))) (dNil)))
def q_d__law_bodies_right_14 : DS := dExp (dMet isLst mAppend (dVar 5) (dCons (dGcE (dLam subM hsM aftM (dCall 3 f_is_other_body (dCons (dVar 4) (dCons (dBin fTupR (dC (.int 20)) (dC (.int 40))) (dCons (dC .non) (dNil))))))) (dNil)))
def q_d__law_bodies_right_15 : DS := dExp (dMet isLst mAppend (dVar 5) (dCons (dGcE (dLam subM hsM aftM (dCall 3 f_spliced (dCons (dVar 4) (dCons (dVar 4) (dCons (dVar 3) (dNil))))))) (dNil)))
def q_d__law_bodies_right_16 : DS := dExp (dMet isLst mAppend (dVar 5) (dCons (dGcE (dLam subM hsM aftM (dCall 3 f_spliced (dCons (dVar 4) (dCons (dVar 4) (dCons (dC (.int 122)) (dNil))))))) (dNil)))
def t_d__law_bodies_right_17 : DS := dRet (dBin pEq (dVar 5) (dBin pAdd (dBin pAdd (dBin pMul (dApp fLst (dCons (dC (.str [98, 111, 100, 121])) (dNil))) (dC (.int 8))) (dBin pMul (dApp fLst (dCons (dC (.str [111, 112, 101, 114, 97, 116, 105, 111, 110])) (dNil))) (dC (.int 4)))) (dApp fLst (dCons (dBin pAdd (dC (.str [110, 117, 109, 98, 101, 114, 32])) (dApp fRepr (dCons (dVar 3) (dNil)))) (dCons (dC (.str [102, 105, 110, 101])) (dNil))))))
def t_d__law_bodies_right_16 : DS := dSeq q_d__law_bodies_right_16 t_d__law_bodies_right_17
def t_d__law_bodies_right_15 : DS := dSeq q_d__law_bodies_right_15 t_d__law_bodies_right_16
def t_d__law_bodies_right_14 : DS := dSeq q_d__law_bodies_right_14 t_d__law_bodies_right_15
def t_d__law_bodies_right_13 : DS := dSeq q_d__law_bodies_right_13 t_d__law_bodies_right_14
def t_d__law_bodies_right_12 : DS := dSeq q_d__law_bodies_right_12 t_d__law_bodies_right_13
def t_d__law_bodies_right_11 : DS := dSeq q_d__law_bodies_right_11 t_d__law_bodies_right_12
def t_d__law_bodies_right_10 : DS := dSeq q_d__law_bodies_right_10 t_d__law_bodies_right_11
def t_d__law_bodies_right_9 : DS := dSeq q_d__law_bodies_right_9 t_d__law_bodies_right_10
def t_d__law_bodies_right_8 : DS := dSeq q_d__law_bodies_right_8 t_d__law_bodies_right_9
def t_d__law_bodies_right_7 : DS := dSeq q_d__law_bodies_right_7 t_d__law_bodies_right_8
def t_d__law_bodies_right_6 : DS := dSeq q_d__law_bodies_right_6 t_d__law_bodies_right_7
def t_d__law_bodies_right_5 : DS := dSeq q_d__law_bodies_right_5 t_d__law_bodies_right_6
def t_d__law_bodies_right_4 : DS := dSeq q_d__law_bodies_right_4 t_d__law_bodies_right_5
def t_d__law_bodies_right_3 : DS := dSeq q_d__law_bodies_right_3 t_d__law_bodies_right_4
def t_d__law_bodies_right_2 : DS := dSeq q_d__law_bodies_right_2 t_d__law_bodies_right_3
def t_d__law_bodies_right_1 : DS := dSeq q_d__law_bodies_right_1 t_d__law_bodies_right_2
def t_d__law_bodies_right_0 : DS := dSeq q_d__law_bodies_right_0 t_d__law_bodies_right_1
theorem t_d__law_bodies_right : d__law_bodies_right = t_d__law_bodies_right_0 := rfl
def q_d__law_texts_right_0 : DS := dSet (.nm 1) (dCall 2 f__law_spoon (dCons (dVar 0) (dCons (dApp fLst (dCons (dC .non) (dCons (dC (.int 0)) (dCons (dApp fLst (dCons (dC (.str [35])) (dNil))) (dCons (dApp fTup (dCons (dC (.str [35])) (dNil))) (dCons (dDict0) (dCons (dC (.bl true)) (dCons (dBin pPow (dC (.int 10)) (dC (.int 60))) (dNil))))))))) (dNil))))
def q_d__law_texts_right_1 : DS := dSet (.nm 2) (dApp fLst (dNil))
def q_d__law_texts_right_2 : DS := dFor (dIt (dApp fTup (dCons (dC (.fn 6)) (dCons (dC (.fn 5)) (dCons (dC (.fn 4)) (dNil)))))) (.nm 3) bo__law_texts_right_1
def q_d__law_texts_right_3 : DS := dFor (dIt (dApp fTup (dCons (dC (.fn 6)) (dCons (dC (.fn 5)) (dCons (dC (.fn 4)) (dNil)))))) (.nm 3) bo__law_texts_right_0
def t_d__law_texts_right_4 : DS := dRet (dBin pEq (dVar 2) (dBin pAdd (dBin pMul (dApp fLst (dCons (dC (.str [116, 101, 120, 116])) (dNil))) (dC (.int 3))) (dBin pMul (dApp fLst (dCons (dC (.str [102, 105, 110, 101])) (dNil))) (dC (.int 3)))))
def t_d__law_texts_right_3 : DS := dSeq q_d__law_texts_right_3 t_d__law_texts_right_4
def t_d__law_texts_right_2 : DS := dSeq q_d__law_texts_right_2 t_d__law_texts_right_3
def t_d__law_texts_right_1 : DS := dSeq q_d__law_texts_right_1 t_d__law_texts_right_2
def t_d__law_texts_right_0 : DS := dSeq q_d__law_texts_right_0 t_d__law_texts_right_1
theorem t_d__law_texts_right : d__law_texts_right = t_d__law_texts_right_0 := rfl
def q_d_law_0 : DS := dFor (dRng fRng1 (dCons (dApp fMax (dCons (dC (.int 1)) (dCons (dApp fMin (dCons (dC (.int 4)) (dCons (dApp fLen (dCons (dVar 0) (dNil))) (dNil)))) (dNil)))) (dNil))) (.nm 1) bo_law_1
def q_d_law_1 : DS := dSet (.nm 2) (dApp fLst (dCons (dGcE (dLam subM hsM aftM (dCall 2 f_other_body (dCons (dBin pMul (dApp fTup (dCons (dC (.int 996)) (dNil))) (dC (.int 20))) (dCons (dBin fTupR (dC (.int 21)) (dC (.int 40))) (dNil)))))) (dNil)))
def q_d_law_2 : DS := dExp (dMet isLst mAppend (dVar 2) (dCons (dGcE (dLam subM hsM aftM (dCall 2 f_other_body (dCons (dBin pMul (dApp fTup (dCons (dC (.int 0)) (dNil))) (dC (.int 20))) (dCons (dApp fTup (dNil)) (dNil)))))) (dNil)))
def q_d_law_3 : DS := dFor (dIt (dApp fTup (dCons (dC (.fn 6)) (dCons (dC (.fn 5)) (dCons (dC (.fn 4)) (dNil)))))) (.nm 3) bo_law_0
def t_d_law_4 : DS := dRet (dBin pEq (dVar 2) (dBin pMul (dApp fLst (dCons (dC (.str [102, 105, 110, 101])) (dNil))) (dC (.int 5))))
def t_d_law_3 : DS := dSeq q_d_law_3 t_d_law_4
def t_d_law_2 : DS := dSeq q_d_law_2 t_d_law_3
def t_d_law_1 : DS := dSeq q_d_law_1 t_d_law_2
def t_d_law_0 : DS := dSeq q_d_law_0 t_d_law_1
theorem t_d_law : d_law = t_d_law_0 := rfl
def q_d__law_churn_0 : DS := dSet (.nm 2) (dIf (dTB (dBin pLt (dVar 1) (dApp fLen (dCons (dVar 0) (dNil))))) (dApp fIntX (dCons (dBin pIx (dVar 0) (dVar 1)) (dNil))) (dBin pAdd (dBin pMul (dC (.int 223)) (dVar 1)) (dC (.int 101))))
def q_d__law_churn_1 : DS := dSet (.nm 3) (dBin pMod (dApp fIntX (dCons (dApp fAbs (dCons (dVar 2) (dNil))) (dNil))) (dBin pMul (dBin pPow (dC (.int 10)) (dC (.int 54))) (dBin pPow (dC (.int 10)) (dC (.int 58)))))
def q_d__law_churn_2 : DS := dSet (.nm 4) (dBin pAdd (dBin pAdd (dBin pAdd (dBin pMul (dBin pMod (dVar 3) (dC (.int 2305843009213693907))) (dC (.int 79))) (dBin pMul (dC (.int 1213)) (dVar 1))) (dBin pMul (dC (.int 43)) (dApp fIntX (dCons (dBin pLt (dVar 2) (dC (.int 0))) (dNil))))) (dC (.int 37)))
def t_d__law_churn_3 : DS := dRet (dApp fLst (dCons (dApp fMax (dCons (dC (.int 0)) (dCons (dBin pSub (dVar 3) (dBin pPow (dC (.int 10)) (dC (.int 16)))) (dNil)))) (dCons (dBin pMod (dApp fIntX (dCons (dVar 4) (dNil))) (dC (.int 1152921504606846883))) (dCons (dC (.int 0)) (dNil)))))
def t_d__law_churn_2 : DS := dSeq q_d__law_churn_2 t_d__law_churn_3
def t_d__law_churn_1 : DS := dSeq q_d__law_churn_1 t_d__law_churn_2
def t_d__law_churn_0 : DS := dSeq q_d__law_churn_0 t_d__law_churn_1
theorem t_d__law_churn : d__law_churn = t_d__law_churn_0 := rfl
def q_d_product_in_0 : DS := dSet (.nm 2) (dBin pMul (dApp fLst (dCons (dC (.int 0)) (dNil))) (dBin pAdd (dApp fLen (dCons (dVar 0) (dNil))) (dApp fLen (dCons (dVar 1) (dNil)))))
def q_d_product_in_1 : DS := dFor (dRng fEn (dCons (dVar 0) (dNil))) (.tp [.nm 3, .nm 4]) bo_product_in_1
def t_d_product_in_2 : DS := dRet (dCall 1 f_trimmed (dCons (dVar 2) (dNil)))
def t_d_product_in_1 : DS := dSeq q_d_product_in_1 t_d_product_in_2
def t_d_product_in_0 : DS := dSeq q_d_product_in_0 t_d_product_in_1
theorem t_d_product_in : d_product_in = t_d_product_in_0 := rfl
def q_d_value_in_0 : DS := dSet (.nm 2) (dC (.int 0))
def q_d_value_in_1 : DS := dFor (dIt (dUn fRevT (dVar 0))) (.nm 3) bo_value_in_0
def t_d_value_in_2 : DS := dRet (dVar 2)
def t_d_value_in_1 : DS := dSeq q_d_value_in_1 t_d_value_in_2
def t_d_value_in_0 : DS := dSeq q_d_value_in_0 t_d_value_in_1
theorem t_d_value_in : d_value_in = t_d_value_in_0 := rfl
def q_d_sum_in_0 : DS := dSet (.nm 2) (dApp fMax (dCons (dApp fLen (dCons (dVar 0) (dNil))) (dCons (dApp fLen (dCons (dVar 1) (dNil))) (dNil))))
def q_d_sum_in_1 : DS := dUnL [.nm 3, .nm 4] (dLc (dIt (dApp fTup (dCons (dVar 0) (dCons (dVar 1) (dNil))))) (.nm 5) (dYes) (bo_sum_in_1) [5])
def t_d_sum_in_2 : DS := dRet (dCall 1 f_trimmed (dCons (dLc (dRng fZip (dCons (dVar 3) (dCons (dVar 4) (dNil)))) (.tp [.nm 6, .nm 7]) (dYes) (bo_sum_in_0) [6, 7]) (dNil)))
def t_d_sum_in_1 : DS := dSeq q_d_sum_in_1 t_d_sum_in_2
def t_d_sum_in_0 : DS := dSeq q_d_sum_in_0 t_d_sum_in_1
theorem t_d_sum_in : d_sum_in = t_d_sum_in_0 := rfl
end K15
end
end
section
set_option maxRecDepth 100000
set_option maxHeartbeats 4000000
namespace K15
open PySem PySem.Spec PyProof.Rows L2 Mi
/-! ### the product of two polys -/
theorem cell_of {as : List Int} (h : okCs as = true) : as.length ≤ 1000 ∧ ∀ a ∈ as, 0 ≤ a ∧ a < 997 := by
  unfold okCs at h
  rw [Bool.and_eq_true] at h
  refine ⟨Nat.le_of_ble_eq_true h.1, fun a ha => ?_⟩
  have := List.all_eq_true.mp h.2 a ha
  rw [Bool.and_eq_true] at this
  exact ⟨of_decide_eq_true this.1, of_decide_eq_true this.2⟩
theorem atI_int {f : List Int} {k : Nat} (h : k < f.length) : atI (f.map PV.int) (k : Int) = some (.int (f.getD k 0)) := by
  unfold atI ixN
  rw [List.length_map, if_pos (by omega), if_pos (by omega)]
  show (f.map PV.int)[k]? = _
  rw [List.getElem?_map, List.getElem?_eq_getElem h, List.getD_eq_getElem?_getD, List.getElem?_eq_getElem h]
  rfl
theorem ixN_int {n k : Nat} (h : k < n) : ixN n (k : Int) = some k := by
  unfold ixN
  rw [if_pos (by omega), if_pos (by omega)]
  rfl
theorem tz_le (f : List Int) : ∀ n, tz f n ≤ n
  | 0 => Nat.le_refl _
  | n + 1 => by
    unfold tz
    split
    · exact Nat.le_succ_of_le (tz_le f n)
    · exact Nat.le_refl _
theorem tz_succ (f : List Int) (n : Nat) : tz f (n + 1) = match decide (f.getD n 0 = 0) with
    | true => tz f n
    | false => n + 1 := rfl
theorem while_tz {k : Nat} {st : Sto} {f : List Int} (hk : lstAt st k = some (f.map .int)) : ∀ (n m : Nat), n ≤ f.length → n < m → dWhile bo_trimmed_0 bo_trimmed_1 m noTh [some (.ref k), some (.int (n : Int))] st = .nx [some (.ref k), some (.int (tz f n : Int))] st
  | 0, m + 1, _, _ => by
    unfold dWhile
    simp only [bo_trimmed_0, mkF, env0, dSeq, dSet, dIfS, dRet, dRetN, dExp, dBin, dUn, dVar, dC, dCons, dNil, dApp, dMet, dCall, dCallV, b_ok, b_bad, s_ok, f_rt, f_nx, dTB, dTst, dNotT, dOrT, dAndT, dAnd, dOr, dNot, dChain, dIf, dSkip, dNever, Tg.set, e_le, e_lt, e_ge, e_gt, e_add, e_sub, List.map_cons, List.map_nil, List.length_cons, List.length_nil, List.replicate, List.cons_append, List.nil_append, List.append_nil, List.getElem?_cons_zero, List.getElem?_cons_succ, List.set_cons_zero, List.set_cons_succ, Nat.sub_self, Nat.reduceSub, Nat.reduceAdd, wipeE]
    rfl
  | n + 1, m + 1, hn, hm => by
    have e1 : ((n + 1 : Nat) : Int) - 1 = (n : Int) := by omega
    have c0 : decide (((n + 1 : Nat) : Int) > 0) = true := decide_eq_true (by omega)
    have c0' : decide (0 < ((n + 1 : Nat) : Int)) = true := decide_eq_true (by omega)
    have ix := e_ixR (i := (n : Int)) hk (atI_int (f := f) (k := n) (by omega))
    unfold dWhile
    have ec : bo_trimmed_0 noTh [some (.ref k), some (.int ((n + 1 : Nat) : Int))] st = .ok (decide (f.getD n 0 = 0)) st := by
      simp only [bo_trimmed_0, mkF, env0, dSeq, dSet, dIfS, dRet, dRetN, dExp, dBin, dUn, dVar, dC, dCons, dNil, dApp, dMet, dCall, dCallV, b_ok, b_bad, s_ok, f_rt, f_nx, dTB, dTst, dNotT, dOrT, dAndT, dAnd, dOr, dNot, dChain, dIf, dSkip, dNever, Tg.set, e_le, e_lt, e_ge, e_gt, e_add, e_sub, List.map_cons, List.map_nil, List.length_cons, List.length_nil, List.replicate, List.cons_append, List.nil_append, List.append_nil, List.getElem?_cons_zero, List.getElem?_cons_succ, List.set_cons_zero, List.set_cons_succ, Nat.sub_self, Nat.reduceSub, Nat.reduceAdd, wipeE, c0', e1, ix]
      rfl
    rw [ec]
    dsimp only [Res.s]
    cases hz : decide (f.getD n 0 = 0) with
    | true =>
      dsimp only
      have eb : bo_trimmed_1 noTh [some (.ref k), some (.int ((n + 1 : Nat) : Int))] st = .nx [some (.ref k), some (.int (n : Int))] st := by
        rw [← e1]
        rfl
      rw [eb]
      dsimp only
      rw [while_tz hk n m (by omega) (by omega), tz_succ, hz]
    | false =>
      dsimp only
      rw [show tz f (n + 1) = n + 1 from by
        unfold tz
        rw [hz]]
  | _, 0, _, h => absurd h (Nat.not_lt_zero _)
theorem cut_to (f : List Int) {m : Nat} (h : m ≤ f.length) : cutP (f.map PV.int) none (some (m : Int)) = (f.take m).map .int := by
  unfold cutP HT.sIx
  rw [List.length_map]
  simp only [List.map_take]
  have e : ∀ x : Int, x = m → x.toNat = m := fun x hx => by omega
  rw [List.drop_zero]
  congr 1
  split <;> (try split) <;> omega
theorem trimmed_ok {k : Nat} {st : Sto} {f : List Int} (hk : lstAt st k = some (f.map .int)) (hl : f.length ≤ 90000) : ∃ g, f_trimmed [.ref k] st = .ok (.tup ((trimI f).map .int)) (st ++ g) := by
  have le := e_lenR hk
  rw [List.length_map] at le
  have hw := while_tz hk f.length 100000 (Nat.le_refl _) (by omega)
  have sl : fSl (.ref k) none (some (tz f f.length : Int)) st = .ok (.ref st.length) (st ++ [.lst ((trimI f).map .int)]) := by
    unfold fSl
    dsimp only
    rw [hk]
    dsimp only
    rw [cut_to f (tz_le f _)]
    rfl
  have tu : fTuple [.ref st.length] (st ++ [.lst ((trimI f).map .int)]) = .ok (.tup ((trimI f).map .int)) (st ++ [.lst ((trimI f).map .int)]) := by
    unfold fTuple
    dsimp only [seqOf]
    rw [lst_end st _ []]
  refine ⟨[.lst ((trimI f).map .int)], ?_⟩
  simp only [f_trimmed, m_trimmed, d_trimmed, mkF, env0, dSeq, dSet, dIfS, dRet, dRetN, dExp, dBin, dUn, dVar, dC, dCons, dNil, dApp, dMet, dCall, dCallV, b_ok, b_bad, s_ok, f_rt, f_nx, dTB, dTst, dNotT, dOrT, dAndT, dAnd, dOr, dNot, dChain, dIf, dSkip, dNever, Tg.set, e_le, e_lt, e_ge, e_gt, e_add, e_sub, List.map_cons, List.map_nil, List.length_cons, List.length_nil, List.replicate, List.cons_append, List.nil_append, List.append_nil, List.getElem?_cons_zero, List.getElem?_cons_succ, List.set_cons_zero, List.set_cons_succ, Nat.sub_self, Nat.reduceSub, Nat.reduceAdd, wipeE, le]
  rw [hw]
  simp only [mkF, env0, dSeq, dSet, dIfS, dRet, dRetN, dExp, dBin, dUn, dVar, dC, dCons, dNil, dApp, dMet, dCall, dCallV, b_ok, b_bad, s_ok, f_rt, f_nx, dTB, dTst, dNotT, dOrT, dAndT, dAnd, dOr, dNot, dChain, dIf, dSkip, dNever, Tg.set, e_le, e_lt, e_ge, e_gt, e_add, e_sub, List.map_cons, List.map_nil, List.length_cons, List.length_nil, List.replicate, List.cons_append, List.nil_append, List.append_nil, List.getElem?_cons_zero, List.getElem?_cons_succ, List.set_cons_zero, List.set_cons_succ, Nat.sub_self, Nat.reduceSub, Nat.reduceAdd, wipeE, dSl, dNoP, dPt, sl, tu]
theorem addAt_step (x : Int) (y : Int) (r : List Int) : ∀ (k : Nat) (f : List Int), k < f.length → addAt (k + 1) x (f.set k ((f.getD k 0 + x * y) % 997)) r = addAt k x f (y :: r)
  | 0, a :: f, _ => by
    show addAt 1 x ((a + x * y) % 997 :: f) r = (a + x * y) % 997 :: addRow x f r
    rfl
  | k + 1, a :: f, h => by
    show a :: addAt (k + 1) x (f.set k ((f.getD k 0 + x * y) % 997)) r = a :: addAt k x f (y :: r)
    rw [addAt_step x y r k f (by simpa using h)]
  | _, [], h => absurd h (Nat.not_lt_zero _)
theorem addAt_nil (x : Int) : ∀ (k : Nat) (f : List Int), k ≤ f.length → addAt k x f [] = f
  | 0, f, _ => by
    cases f <;> rfl
  | k + 1, a :: f, h => by
    show a :: addAt k x f [] = _
    rw [addAt_nil x k f (by simpa using h)]
  | k + 1, [], h => absurd h (Nat.not_succ_le_zero _)
theorem addRow_len (x : Int) : ∀ (f ys : List Int), (addRow x f ys).length = f.length
  | f, [] => by cases f <;> rfl
  | [], y :: ys => rfl
  | a :: f, y :: ys => by
    show (addRow x f ys).length + 1 = _
    rw [addRow_len x f ys]
    rfl
theorem addAt_len (x : Int) (ys : List Int) : ∀ (k : Nat) (f : List Int), (addAt k x f ys).length = f.length
  | 0, f => addRow_len x f ys
  | k + 1, a :: f => by
    show (addAt k x f ys).length + 1 = _
    rw [addAt_len x ys k f]
    rfl
  | k + 1, [] => rfl
def isC (f : List Int) : Prop := ∀ a ∈ f, 0 ≤ a ∧ a < 997
theorem isC_get {f : List Int} (h : isC f) (k : Nat) : 0 ≤ f.getD k 0 ∧ f.getD k 0 < 997 := by
  rw [List.getD_eq_getElem?_getD]
  cases e : f[k]? with
  | none => exact ⟨by decide, by decide⟩
  | some a => exact h a (List.mem_of_getElem? e)
theorem isC_set {f : List Int} (h : isC f) (k : Nat) {v : Int} (hv : 0 ≤ v ∧ v < 997) : isC (f.set k v) := fun a ha => by
  rcases List.mem_or_eq_of_mem_set ha with z | z
  · exact h a z
  · rw [z]
    exact hv
theorem mod_c (x : Int) : 0 ≤ x % 997 ∧ x % 997 < 997 := ⟨Int.emod_nonneg _ (by decide), Int.emod_lt_of_pos _ (by decide)⟩
theorem mul_c {x y : Int} (hx : 0 ≤ x ∧ x < 997) (hy : 0 ≤ y ∧ y < 997) (s : Sto) : pMul (.int x) (.int y) s = .ok (.int (x * y)) s := e_mul s (cMul_small (x := x) (y := y) (k := 10) (l := 10) (by omega) (by omega) (by decide))
theorem set_int (f : List Int) (k : Nat) (v : Int) : (f.map PV.int).set k (.int v) = (f.set k v).map .int := by rw [List.map_set]
/-- the inner loop -/
theorem inner_ok {xs ys : List PV} {D k : Nat} {x : Int} (hx : 0 ≤ x ∧ x < 997) : ∀ (r : List Int) (j : Nat) (f : List Int) (a b : Option PV) (st : Sto), st[D]? = some (.lst (f.map .int)) → isC f → isC r → k + j + r.length ≤ f.length →
    ∃ a' b' f', forV (.tp [.nm 5, .nm 6]) bo_product_in_0 noTh (enV (j : Int) (r.map .int)) [some (.tup xs), some (.tup ys), some (.ref D), some (.int (k : Int)), some (.int x), a, b] st = .nx [some (.tup xs), some (.tup ys), some (.ref D), some (.int (k : Int)), some (.int x), a', b'] (st.set D (.lst (f'.map .int))) ∧
      f' = addAt (k + j) x f r ∧ isC f'
  | [], j, f, a, b, st, hD, hf, _, hl => by
    refine ⟨a, b, f, ?_, (addAt_nil x _ f (by simpa using hl)).symm, hf⟩
    have e : st.set D (.lst (f.map .int)) = st := by
      obtain ⟨h, e⟩ := List.getElem?_eq_some_iff.mp hD
      rw [← e]
      exact List.set_getElem_self h
    rw [e]
    rfl
  | y :: r, j, f, a, b, st, hD, hf, hr, hl => by
    rw [List.length_cons] at hl
    have hy := hr y List.mem_cons_self
    have hr' : isC r := fun z hz => hr z (List.mem_cons_of_mem _ hz)
    have e1 : (k : Int) + (j : Int) = ((k + j : Nat) : Int) := by omega
    have ix := e_ixR (i := ((k + j : Nat) : Int)) (lst_of hD) (atI_int (f := f) (k := k + j) (by omega))
    have hv := mod_c (f.getD (k + j) 0 + x * y)
    have hDl : D < st.length := (List.getElem?_eq_some_iff.mp hD).1
    have se := e_setL (xs := f.map PV.int) (j := ((k + j : Nat) : Int)) (m := k + j) (v := .int ((f.getD (k + j) 0 + x * y) % 997)) hD (by rw [List.length_map]; exact ixN_int (by omega))
    rw [set_int] at se
    have body : bo_product_in_0 noTh [some (.tup xs), some (.tup ys), some (.ref D), some (.int (k : Int)), some (.int x), some (.int (j : Int)), some (.int y)] st = .nx [some (.tup xs), some (.tup ys), some (.ref D), some (.int (k : Int)), some (.int x), some (.int (j : Int)), some (.int y)] (st.set D (.lst ((f.set (k + j) ((f.getD (k + j) 0 + x * y) % 997)).map .int))) := by
      simp only [bo_product_in_0, dSub, mkF, env0, dSeq, dSet, dIfS, dRet, dRetN, dExp, dBin, dUn, dVar, dC, dCons, dNil, dApp, dMet, dCall, dCallV, b_ok, b_bad, s_ok, f_rt, f_nx, dTB, dTst, dNotT, dOrT, dAndT, dAnd, dOr, dNot, dChain, dIf, dSkip, dNever, Tg.set, e_le, e_lt, e_ge, e_gt, e_add, e_sub, List.map_cons, List.map_nil, List.length_cons, List.length_nil, List.replicate, List.cons_append, List.nil_append, List.append_nil, List.getElem?_cons_zero, List.getElem?_cons_succ, List.set_cons_zero, List.set_cons_succ, Nat.sub_self, Nat.reduceSub, Nat.reduceAdd, wipeE, e1, ix, mul_c hx hy, e_mod _ (show (0 : Int) < 997 by decide), se]
    have h2 : (st.set D (SO.lst ((f.set (k + j) ((f.getD (k + j) 0 + x * y) % 997)).map .int)))[D]? = some (.lst ((f.set (k + j) ((f.getD (k + j) 0 + x * y) % 997)).map .int)) := List.getElem?_set_self hDl
    obtain ⟨a', b', f', e, e2, e3⟩ := inner_ok (xs := xs) (ys := ys) (D := D) (k := k) hx r (j + 1) (f.set (k + j) ((f.getD (k + j) 0 + x * y) % 997)) (some (.int (j : Int))) (some (.int y)) _ h2 (isC_set hf _ hv) hr' (by rw [List.length_set]; omega)
    refine ⟨a', b', f', ?_, ?_, e3⟩
    · rw [List.map_cons]
      unfold enV forV
      simp only [Tg.set, Tg.sets, List.set_cons_zero, List.set_cons_succ]
      rw [body]
      dsimp only
      have e4 : (j : Int) + 1 = ((j + 1 : Nat) : Int) := by omega
      rw [e4, e, List.set_set]
    · rw [e2, ← Nat.add_assoc, addAt_step x y r (k + j) f (by omega)]
/-- the outer loop -/
theorem outer_ok {xs : List PV} {D : Nat} {bs : List Int} (hb : isC bs) : ∀ (r : List Int) (k : Nat) (f : List Int) (p q a b : Option PV) (st : Sto), st[D]? = some (.lst (f.map .int)) → isC f → isC r → k + r.length + bs.length ≤ f.length →
    ∃ p' q' a' b' f', forV (.tp [.nm 3, .nm 4]) bo_product_in_1 noTh (enV (k : Int) (r.map .int)) [some (.tup xs), some (.tup (bs.map .int)), some (.ref D), p, q, a, b] st = .nx [some (.tup xs), some (.tup (bs.map .int)), some (.ref D), p', q', a', b'] (st.set D (.lst (f'.map .int))) ∧ f' = prodF bs k r f
  | [], k, f, p, q, a, b, st, hD, hf, _, hl => by
    refine ⟨p, q, a, b, f, ?_, rfl⟩
    have e : st.set D (.lst (f.map .int)) = st := by
      obtain ⟨h, e⟩ := List.getElem?_eq_some_iff.mp hD
      rw [← e]
      exact List.set_getElem_self h
    rw [e]
    rfl
  | x :: r, k, f, p, q, a, b, st, hD, hf, hr, hl => by
    rw [List.length_cons] at hl
    have hx := hr x List.mem_cons_self
    have hDl : D < st.length := (List.getElem?_eq_some_iff.mp hD).1
    obtain ⟨a1, b1, f1, e1, e2, e3⟩ := inner_ok (xs := xs) (ys := bs.map .int) (D := D) (k := k) hx bs 0 f a b st hD hf hb (by omega)
    rw [Nat.add_zero] at e2
    have body : bo_product_in_1 noTh [some (.tup xs), some (.tup (bs.map .int)), some (.ref D), some (.int (k : Int)), some (.int x), a, b] st = .nx [some (.tup xs), some (.tup (bs.map .int)), some (.ref D), some (.int (k : Int)), some (.int x), a1, b1] (st.set D (.lst (f1.map .int))) := by
      have z : ((0 : Nat) : Int) = 0 := rfl
      rw [z] at e1
      simp only [bo_product_in_1, dFor, dRng, mkF, env0, dSeq, dSet, dIfS, dRet, dRetN, dExp, dBin, dUn, dVar, dC, dCons, dNil, dApp, dMet, dCall, dCallV, b_ok, b_bad, s_ok, f_rt, f_nx, dTB, dTst, dNotT, dOrT, dAndT, dAnd, dOr, dNot, dChain, dIf, dSkip, dNever, Tg.set, e_le, e_lt, e_ge, e_gt, e_add, e_sub, List.map_cons, List.map_nil, List.length_cons, List.length_nil, List.replicate, List.cons_append, List.nil_append, List.append_nil, List.getElem?_cons_zero, List.getElem?_cons_succ, List.set_cons_zero, List.set_cons_succ, Nat.sub_self, Nat.reduceSub, Nat.reduceAdd, wipeE, fEn]
      exact e1
    obtain ⟨p', q', a', b', f', e4, e5⟩ := outer_ok (xs := xs) (D := D) hb r (k + 1) f1 (some (.int (k : Int))) (some (.int x)) a1 b1 (st.set D (.lst (f1.map .int))) (List.getElem?_set_self hDl) e3 (fun z hz => hr z (List.mem_cons_of_mem _ hz)) (by rw [e2, addAt_len]; omega)
    refine ⟨p', q', a', b', f', ?_, ?_⟩
    · rw [List.map_cons]
      unfold enV forV
      simp only [Tg.set, Tg.sets, List.set_cons_zero, List.set_cons_succ]
      rw [body]
      dsimp only
      have e6 : (k : Int) + 1 = ((k + 1 : Nat) : Int) := by omega
      rw [e6, e4, List.set_set]
    · rw [e5, e2]
      rfl
theorem ints_of {xs : List PV} : ∀ {as : List Int}, intsOf xs = some as → xs = as.map .int := by
  induction xs with
  | nil =>
    intro as h
    cases h
    rfl
  | cons p r ih =>
    intro as h
    cases p <;> simp only [intsOf] at h <;> try (cases h; done)
    rename_i i
    split at h
    · rename_i is e
      cases h
      rw [ih e]
      rfl
    · cases h
theorem rep_int (n : Nat) : (List.replicate n [PV.int 0]).flatten = (List.replicate n (0 : Int)).map .int := by
  induction n with
  | zero => rfl
  | succ n ih =>
    rw [List.replicate_succ, List.replicate_succ, List.flatten_cons, ih]
    rfl
theorem isC_zero (n : Nat) : isC (List.replicate n 0) := fun a ha => by
  rw [List.eq_of_mem_replicate ha]
  decide
theorem r_product_in : Ref s_product_in m_product_in := by
  refine Ref.of fun ps st hp hs => ?_
  unfold s_product_in
  split
  · rename_i xs ys
    split
    · rename_i as bs e1 e2
      by_cases hc : (okCs as && okCs bs) = true
      · rw [if_pos hc]
        rw [Bool.and_eq_true] at hc
        obtain ⟨la, ca⟩ := cell_of hc.1
        obtain ⟨lb, cb⟩ := cell_of hc.2
        obtain rfl := ints_of e1
        obtain rfl := ints_of e2
        have lx : ∀ (zs : List Int) (s : Sto), zs.length ≤ 1000 → fLen [.tup (zs.map .int)] s = .ok (.int zs.length) s := fun zs s hz => by
          show Res.ok (PV.int (zs.map PV.int).length) s = _
          rw [List.length_map]
        have e3 : (as.length : Int) + (bs.length : Int) = ((as.length + bs.length : Nat) : Int) := by omega
        have rp : pMul (.ref st.length) (.int ((as.length + bs.length : Nat) : Int)) (st ++ [.lst [.int 0]]) = .ok (.ref (st ++ [SO.lst [PV.int 0]]).length) ((st ++ [.lst [.int 0]]) ++ [.lst ((List.replicate (as.length + bs.length) (0 : Int)).map .int)]) := by
          rw [← rep_int]
          exact e_rep (get_end st _ []) (by
            rw [decide_eq_true (by omega), decide_eq_true (by omega)]
            exact Nat.ble_eq_true_of_le (by simp; omega))
        have f1 : fLst [.int 0] st = .ok (.ref st.length) (st ++ [.lst [.int 0]]) := rfl
        have q0 : q_d_product_in_0 noTh (env0 7 [.tup (as.map .int), .tup (bs.map .int)]) st = .nx [some (.tup (as.map .int)), some (.tup (bs.map .int)), some (.ref (st ++ [SO.lst [PV.int 0]]).length), none, none, none, none] ((st ++ [.lst [.int 0]]) ++ [.lst ((List.replicate (as.length + bs.length) (0 : Int)).map .int)]) := by
          simp only [q_d_product_in_0, mkF, env0, dSeq, dSet, dIfS, dRet, dRetN, dExp, dBin, dUn, dVar, dC, dCons, dNil, dApp, dMet, dCall, dCallV, b_ok, b_bad, s_ok, f_rt, f_nx, dTB, dTst, dNotT, dOrT, dAndT, dAnd, dOr, dNot, dChain, dIf, dSkip, dNever, Tg.set, e_le, e_lt, e_ge, e_gt, e_add, e_sub, List.map_cons, List.map_nil, List.length_cons, List.length_nil, List.replicate, List.cons_append, List.nil_append, List.append_nil, List.getElem?_cons_zero, List.getElem?_cons_succ, List.set_cons_zero, List.set_cons_succ, Nat.sub_self, Nat.reduceSub, Nat.reduceAdd, wipeE, f1, lx as _ la, lx bs _ lb, e3, rp]
        generalize hs1 : st ++ [SO.lst [PV.int 0]] = s1 at q0
        obtain ⟨p', q', a', b', f', o1, o2⟩ := outer_ok (xs := as.map .int) (D := s1.length) (bs := bs) cb as 0 (List.replicate (as.length + bs.length) 0) none none none none (s1 ++ [.lst ((List.replicate (as.length + bs.length) (0 : Int)).map .int)]) (get_end s1 _ []) (isC_zero _) ca (by rw [List.length_replicate]; omega)
        rw [set_end] at o1
        have fl : f'.length ≤ 2000 := by
          rw [o2]
          have key : ∀ (l : List Int) (k : Nat) (f : List Int), (prodF bs k l f).length = f.length := fun l => by
            induction l with
            | nil => intro k f; rfl
            | cons x l ih =>
              intro k f
              show (prodF bs (k + 1) l (addAt k x f bs)).length = _
              rw [ih, addAt_len]
          rw [key, List.length_replicate]
          omega
        obtain ⟨g, tr⟩ := trimmed_ok (k := s1.length) (st := s1 ++ [.lst (f'.map .int)]) (lst_end s1 _ []) (by omega)
        have q1 : q_d_product_in_1 noTh [some (.tup (as.map .int)), some (.tup (bs.map .int)), some (.ref s1.length), none, none, none, none] (s1 ++ [.lst ((List.replicate (as.length + bs.length) (0 : Int)).map .int)]) = .nx [some (.tup (as.map .int)), some (.tup (bs.map .int)), some (.ref s1.length), p', q', a', b'] (s1 ++ [.lst (f'.map .int)]) := by
          have z : ((0 : Nat) : Int) = 0 := rfl
          rw [z] at o1
          simp only [q_d_product_in_1, dFor, dRng, mkF, env0, dSeq, dSet, dIfS, dRet, dRetN, dExp, dBin, dUn, dVar, dC, dCons, dNil, dApp, dMet, dCall, dCallV, b_ok, b_bad, s_ok, f_rt, f_nx, dTB, dTst, dNotT, dOrT, dAndT, dAnd, dOr, dNot, dChain, dIf, dSkip, dNever, Tg.set, e_le, e_lt, e_ge, e_gt, e_add, e_sub, List.map_cons, List.map_nil, List.length_cons, List.length_nil, List.replicate, List.cons_append, List.nil_append, List.append_nil, List.getElem?_cons_zero, List.getElem?_cons_succ, List.set_cons_zero, List.set_cons_succ, Nat.sub_self, Nat.reduceSub, Nat.reduceAdd, wipeE, fEn]
          exact o1
        have t2 : t_d_product_in_2 noTh [some (.tup (as.map .int)), some (.tup (bs.map .int)), some (.ref s1.length), p', q', a', b'] (s1 ++ [.lst (f'.map .int)]) = .rt (.tup ((trimI f').map .int)) ((s1 ++ [.lst (f'.map .int)]) ++ g) := by
          simp only [t_d_product_in_2, mkF, env0, dSeq, dSet, dIfS, dRet, dRetN, dExp, dBin, dUn, dVar, dC, dCons, dNil, dApp, dMet, dCall, dCallV, b_ok, b_bad, s_ok, f_rt, f_nx, dTB, dTst, dNotT, dOrT, dAndT, dAnd, dOr, dNot, dChain, dIf, dSkip, dNever, Tg.set, e_le, e_lt, e_ge, e_gt, e_add, e_sub, List.map_cons, List.map_nil, List.length_cons, List.length_nil, List.replicate, List.cons_append, List.nil_append, List.append_nil, List.getElem?_cons_zero, List.getElem?_cons_succ, List.set_cons_zero, List.set_cons_succ, Nat.sub_self, Nat.reduceSub, Nat.reduceAdd, wipeE, Nat.beq, if_true, tr]
        have fin : m_product_in [.tup (as.map .int), .tup (bs.map .int)] st = .ok (.tup ((trimI f').map .int)) (st ++ ([.lst [.int 0]] ++ ([.lst (f'.map .int)] ++ g))) := by
          show mkF 7 d_product_in _ _ = _
          rw [t_d_product_in]
          unfold mkF t_d_product_in_0 t_d_product_in_1
          rw [sq q0, sq q1, t2, ← hs1]
          simp only [List.append_assoc]
          rfl
        rw [← o2]
        exact LeR.plain fin (by
          show clVs _ _ = true
          exact clVs_of fun p hp => by
            obtain ⟨i, _, rfl⟩ := List.mem_map.mp hp
            rfl) hs
      · rw [if_neg hc]
        trivial
    · trivial
  · trivial
end K15
end
section
set_option maxRecDepth 100000
set_option maxHeartbeats 4000000
namespace K15
open PySem PySem.Spec PyProof.Rows L2 Mi
theorem cellB_ok {c : Int} (h : cellB c = true) : 0 ≤ c ∧ c < 997 := by
  unfold cellB at h
  rw [Bool.and_eq_true] at h
  exact ⟨of_decide_eq_true h.1, of_decide_eq_true h.2⟩
theorem clVs_ints (n : Nat) (l : List Int) : clVs n (l.map PV.int) = true := clVs_of fun p hp => by
  obtain ⟨i, _, rfl⟩ := List.mem_map.mp hp
  rfl
/-! ### a poly's value -/
theorem horn_ok {p : PV} {c : Int} (hc : 0 ≤ c ∧ c < 997) {st : Sto} : ∀ (r : List Int) (f : Int) (e : Option PV), isC r → (0 ≤ f ∧ f < 997) →
    ∃ e', forV (.nm 3) bo_value_in_0 noTh (r.map .int) [some p, some (.int c), some (.int f), e] st = .nx [some p, some (.int c), some (.int (horn c r f)), e'] st
  | [], f, e, _, _ => ⟨e, rfl⟩
  | a :: r, f, e, hr, hf => by
    have body : bo_value_in_0 noTh [some p, some (.int c), some (.int f), some (.int a)] st = .nx [some p, some (.int c), some (.int ((f * c + a) % 997)), some (.int a)] st := by
      simp only [bo_value_in_0, mkF, env0, dSeq, dSet, dIfS, dRet, dRetN, dExp, dBin, dUn, dVar, dC, dCons, dNil, dApp, dMet, dCall, dCallV, b_ok, b_bad, s_ok, f_rt, f_nx, dTB, dTst, dNotT, dOrT, dAndT, dAnd, dOr, dNot, dChain, dIf, dSkip, dNever, Tg.set, e_le, e_lt, e_ge, e_gt, e_add, e_sub, List.map_cons, List.map_nil, List.length_cons, List.length_nil, List.replicate, List.cons_append, List.nil_append, List.append_nil, List.getElem?_cons_zero, List.getElem?_cons_succ, List.set_cons_zero, List.set_cons_succ, Nat.sub_self, Nat.reduceSub, Nat.reduceAdd, wipeE, mul_c hf hc, e_mod _ (show (0 : Int) < 997 by decide)]
    obtain ⟨e', h⟩ := horn_ok (p := p) hc (st := st) r ((f * c + a) % 997) (some (.int a)) (fun z hz => hr z (List.mem_cons_of_mem _ hz)) (mod_c _)
    refine ⟨e', ?_⟩
    rw [List.map_cons]
    unfold forV
    simp only [Tg.set, List.set_cons_zero, List.set_cons_succ]
    rw [body]
    exact h
theorem r_value_in : Ref s_value_in m_value_in := by
  refine Ref.of fun ps st hp hs => ?_
  unfold s_value_in
  split
  · rename_i xs c
    split
    · rename_i as e1
      by_cases hc : (okCs as && cellB c) = true
      · rw [if_pos hc]
        rw [Bool.and_eq_true] at hc
        obtain ⟨la, ca⟩ := cell_of hc.1
        obtain rfl := ints_of e1
        obtain ⟨e', h⟩ := horn_ok (p := .tup (as.map .int)) (cellB_ok hc.2) (st := st) as.reverse 0 none (fun a ha => ca a (List.mem_reverse.mp ha)) ⟨by decide, by decide⟩
        rw [List.map_reverse] at h
        have fin : m_value_in [.tup (as.map .int), .int c] st = .ok (.int (horn c as.reverse 0)) (st ++ []) := by
          rw [List.append_nil]
          simp only [m_value_in, d_value_in, mkF, env0, dSeq, dSet, dIfS, dRet, dRetN, dExp, dBin, dUn, dVar, dC, dCons, dNil, dApp, dMet, dCall, dCallV, b_ok, b_bad, s_ok, f_rt, f_nx, dTB, dTst, dNotT, dOrT, dAndT, dAnd, dOr, dNot, dChain, dIf, dSkip, dNever, Tg.set, e_le, e_lt, e_ge, e_gt, e_add, e_sub, List.map_cons, List.map_nil, List.length_cons, List.length_nil, List.replicate, List.cons_append, List.nil_append, List.append_nil, List.getElem?_cons_zero, List.getElem?_cons_succ, List.set_cons_zero, List.set_cons_succ, Nat.sub_self, Nat.reduceSub, Nat.reduceAdd, wipeE, dFor, dIt, fRevT, itOf]
          rw [h]
          rfl
        exact LeR.plain fin rfl hs
      · rw [if_neg hc]
        trivial
    · trivial
  · trivial
/-! ### a multiple -/
theorem r_scaled_in : Ref s_scaled_in m_scaled_in := by
  refine Ref.of fun ps st hp hs => ?_
  unfold s_scaled_in
  split
  · rename_i xs c
    split
    · rename_i as e1
      by_cases hc : (okCs as && cellB c) = true
      · rw [if_pos hc]
        rw [Bool.and_eq_true] at hc
        obtain ⟨la, ca⟩ := cell_of hc.1
        have hcc := cellB_ok hc.2
        obtain rfl := ints_of e1
        have lc : dLc (dIt (dVar 0)) (.nm 2) dYes bo_scaled_in_0 [2] noTh [some (.tup (as.map .int)), some (.int c), none] st = .ok (.ref st.length) (st ++ [.lst ((as.map fun a => a * c % 997).map .int)]) := by
          have h := dLc_vals (it := dIt (dVar 0)) (i := 2) (ts := dYes) (el := bo_scaled_in_0) (p := fun _ => true) (h := fun p => match p with | .int a => .int (a * c % 997) | p => p) (own := [2]) (th := noTh) (env := [some (.tup (as.map .int)), some (.int c), none]) (st := st) (s := st) (xs := as.map .int) rfl (by rw [List.length_map]; omega) (fun x _ acc => rfl) (fun x hx _ acc => by
            obtain ⟨a, ha, rfl⟩ := List.mem_map.mp hx
            have ha := ca a ha
            show bo_scaled_in_0 noTh [some (.tup (as.map .int)), some (.int c), some (.int a)] _ = _
            simp only [bo_scaled_in_0, mkF, env0, dSeq, dSet, dIfS, dRet, dRetN, dExp, dBin, dUn, dVar, dC, dCons, dNil, dApp, dMet, dCall, dCallV, b_ok, b_bad, s_ok, f_rt, f_nx, dTB, dTst, dNotT, dOrT, dAndT, dAnd, dOr, dNot, dChain, dIf, dSkip, dNever, Tg.set, e_le, e_lt, e_ge, e_gt, e_add, e_sub, List.map_cons, List.map_nil, List.length_cons, List.length_nil, List.replicate, List.cons_append, List.nil_append, List.append_nil, List.getElem?_cons_zero, List.getElem?_cons_succ, List.set_cons_zero, List.set_cons_succ, Nat.sub_self, Nat.reduceSub, Nat.reduceAdd, wipeE, mul_c ha hcc, e_mod _ (show (0 : Int) < 997 by decide)])
          rw [h, List.filter_eq_self.mpr (fun _ _ => rfl), List.map_map, List.map_map]
          rfl
        obtain ⟨g, tr⟩ := trimmed_ok (k := st.length) (st := st ++ [.lst ((as.map fun a => a * c % 997).map .int)]) (lst_end st _ []) (by rw [List.length_map]; omega)
        have fin : m_scaled_in [.tup (as.map .int), .int c] st = .ok (.tup ((trimI (as.map fun a => a * c % 997)).map .int)) (st ++ ([.lst ((as.map fun a => a * c % 997).map .int)] ++ g)) := by
          simp only [m_scaled_in, d_scaled_in, mkF, env0, dSeq, dSet, dIfS, dRet, dRetN, dExp, dBin, dUn, dVar, dC, dCons, dNil, dApp, dMet, dCall, dCallV, b_ok, b_bad, s_ok, f_rt, f_nx, dTB, dTst, dNotT, dOrT, dAndT, dAnd, dOr, dNot, dChain, dIf, dSkip, dNever, Tg.set, e_le, e_lt, e_ge, e_gt, e_add, e_sub, List.map_cons, List.map_nil, List.length_cons, List.length_nil, List.replicate, List.cons_append, List.nil_append, List.append_nil, List.getElem?_cons_zero, List.getElem?_cons_succ, List.set_cons_zero, List.set_cons_succ, Nat.sub_self, Nat.reduceSub, Nat.reduceAdd, wipeE, lc, Nat.beq, if_true]
          rw [tr]
          simp only [mkF, env0, dSeq, dSet, dIfS, dRet, dRetN, dExp, dBin, dUn, dVar, dC, dCons, dNil, dApp, dMet, dCall, dCallV, b_ok, b_bad, s_ok, f_rt, f_nx, dTB, dTst, dNotT, dOrT, dAndT, dAnd, dOr, dNot, dChain, dIf, dSkip, dNever, Tg.set, e_le, e_lt, e_ge, e_gt, e_add, e_sub, List.map_cons, List.map_nil, List.length_cons, List.length_nil, List.replicate, List.cons_append, List.nil_append, List.append_nil, List.getElem?_cons_zero, List.getElem?_cons_succ, List.set_cons_zero, List.set_cons_succ, Nat.sub_self, Nat.reduceSub, Nat.reduceAdd, wipeE, List.append_assoc]
        exact LeR.plain fin (clVs_ints _ _) hs
      · rw [if_neg hc]
        trivial
    · trivial
  · trivial
end K15
end
section
set_option maxRecDepth 100000
set_option maxHeartbeats 4000000
namespace K15
open PySem PySem.Spec PyProof.Rows L2 Mi
/-! ### the sum of two polys -/
theorem maxN_eq (a b : Nat) : (if (b : Int) > a then (b : Int) else a) = ((maxN a b : Nat) : Int) := by
  unfold maxN
  cases h : Nat.ble a b with
  | true =>
    have := Nat.le_of_ble_eq_true h
    dsimp only
    split <;> omega
  | false =>
    have : ¬ a ≤ b := fun z => by rw [Nat.ble_eq_true_of_le z] at h; cases h
    dsimp only
    rw [if_neg (by omega)]
theorem maxN_le (a b : Nat) : a ≤ maxN a b ∧ b ≤ maxN a b ∧ (maxN a b = a ∨ maxN a b = b) := by
  unfold maxN
  cases h : Nat.ble a b with
  | true => exact ⟨Nat.le_of_ble_eq_true h, Nat.le_refl _, .inr rfl⟩
  | false =>
    have : ¬ a ≤ b := fun z => by rw [Nat.ble_eq_true_of_le z] at h; cases h
    exact ⟨Nat.le_refl _, by show b ≤ a; omega, .inl rfl⟩
theorem len_tup (zs : List Int) (s : Sto) : fLen [.tup (zs.map .int)] s = .ok (.int zs.length) s := by
  show Res.ok (PV.int (zs.map PV.int).length) s = _
  rw [List.length_map]
/-- a poly with zeros behind it -/
theorem pad_ok {a b c d f g h : Option PV} {N : Nat} {as : List Int} (hl : as.length ≤ N) (hN : N ≤ 1000) (s : Sto) : bo_sum_in_1 noTh [a, b, some (.int (N : Int)), c, d, some (.tup (as.map .int)), g, h] s = .ok (.ref (s.length + 2)) (s ++ [.lst [.int 0], .lst ((List.replicate (N - as.length) (0 : Int)).map .int), .lst ((padI N as).map .int)]) := by
  have e3 : (N : Int) - (as.length : Int) = ((N - as.length : Nat) : Int) := by omega
  have f1 : fLst [.int 0] s = .ok (.ref s.length) (s ++ [.lst [.int 0]]) := rfl
  have rp : pMul (.ref s.length) (.int ((N - as.length : Nat) : Int)) (s ++ [.lst [.int 0]]) = .ok (.ref (s ++ [SO.lst [PV.int 0]]).length) ((s ++ [.lst [.int 0]]) ++ [.lst ((List.replicate (N - as.length) (0 : Int)).map .int)]) := by
    rw [← rep_int]
    exact e_rep (get_end s _ []) (by
      rw [decide_eq_true (by omega), decide_eq_true (by omega)]
      exact Nat.ble_eq_true_of_le (by simp; omega))
  have z1 : dBin pMul (dApp fLst (dCons (dC (.int 0)) (dNil))) (dBin pSub (dVar 2) (dApp fLen (dCons (dVar 5) (dNil)))) noTh [a, b, some (.int (N : Int)), c, d, some (.tup (as.map .int)), g, h] s = .ok (.ref (s ++ [SO.lst [PV.int 0]]).length) ((s ++ [.lst [.int 0]]) ++ [.lst ((List.replicate (N - as.length) (0 : Int)).map .int)]) := by
    simp only [mkF, env0, dSeq, dSet, dIfS, dRet, dRetN, dExp, dBin, dUn, dVar, dC, dCons, dNil, dApp, dMet, dCall, dCallV, b_ok, b_bad, s_ok, f_rt, f_nx, dTB, dTst, dNotT, dOrT, dAndT, dAnd, dOr, dNot, dChain, dIf, dSkip, dNever, Tg.set, e_le, e_lt, e_ge, e_gt, e_add, e_sub, List.map_cons, List.map_nil, List.length_cons, List.length_nil, List.replicate, List.cons_append, List.nil_append, List.append_nil, List.getElem?_cons_zero, List.getElem?_cons_succ, List.set_cons_zero, List.set_cons_succ, Nat.sub_self, Nat.reduceSub, Nat.reduceAdd, wipeE, f1, len_tup, e3, rp]
  have sq1 : seqOf ((s ++ [.lst [.int 0]]) ++ [.lst ((List.replicate (N - as.length) (0 : Int)).map .int)]) (.ref (s ++ [SO.lst [PV.int 0]]).length) = some ((List.replicate (N - as.length) (0 : Int)).map .int) := lst_end (s ++ [SO.lst [PV.int 0]]) _ []
  have ap : (as.map PV.int) ++ ((List.replicate (N - as.length) (0 : Int)).map PV.int) = (padI N as).map .int := by
    unfold padI
    rw [List.map_append]
  have st2 : dStar (dBin pMul (dApp fLst (dCons (dC (.int 0)) (dNil))) (dBin pSub (dVar 2) (dApp fLen (dCons (dVar 5) (dNil))))) (dNil) noTh [a, b, some (.int (N : Int)), c, d, some (.tup (as.map .int)), g, h] s = .ok ((List.replicate (N - as.length) (0 : Int)).map .int) ((s ++ [.lst [.int 0]]) ++ [.lst ((List.replicate (N - as.length) (0 : Int)).map .int)]) := by
    unfold dStar
    rw [z1]
    dsimp only [Res.bind]
    rw [sq1]
    simp only [mkF, env0, dSeq, dSet, dIfS, dRet, dRetN, dExp, dBin, dUn, dVar, dC, dCons, dNil, dApp, dMet, dCall, dCallV, b_ok, b_bad, s_ok, f_rt, f_nx, dTB, dTst, dNotT, dOrT, dAndT, dAnd, dOr, dNot, dChain, dIf, dSkip, dNever, Tg.set, e_le, e_lt, e_ge, e_gt, e_add, e_sub, List.map_cons, List.map_nil, List.length_cons, List.length_nil, List.replicate, List.cons_append, List.nil_append, List.append_nil, List.getElem?_cons_zero, List.getElem?_cons_succ, List.set_cons_zero, List.set_cons_succ, Nat.sub_self, Nat.reduceSub, Nat.reduceAdd, wipeE]
  have st1 : dStar (dVar 5) (dStar (dBin pMul (dApp fLst (dCons (dC (.int 0)) (dNil))) (dBin pSub (dVar 2) (dApp fLen (dCons (dVar 5) (dNil))))) (dNil)) noTh [a, b, some (.int (N : Int)), c, d, some (.tup (as.map .int)), g, h] s = .ok ((padI N as).map .int) ((s ++ [.lst [.int 0]]) ++ [.lst ((List.replicate (N - as.length) (0 : Int)).map .int)]) := by
    have d5 : dVar 5 noTh [a, b, some (.int (N : Int)), c, d, some (.tup (as.map .int)), g, h] s = .ok (.tup (as.map .int)) s := rfl
    generalize hR : dStar (dBin pMul (dApp fLst (dCons (dC (.int 0)) (dNil))) (dBin pSub (dVar 2) (dApp fLen (dCons (dVar 5) (dNil))))) (dNil) = R at st2
    have e : dStar (dVar 5) R noTh [a, b, some (.int (N : Int)), c, d, some (.tup (as.map .int)), g, h] s = (R noTh [a, b, some (.int (N : Int)), c, d, some (.tup (as.map .int)), g, h] s).bind fun ys st2 => .ok (as.map .int ++ ys) st2 := rfl
    rw [e, st2]
    dsimp only [Res.bind]
    rw [ap]
  have hz : szOk ((padI N as).map PV.int).length = true := Nat.ble_eq_true_of_le (by
    unfold padI
    rw [List.length_map, List.length_append, List.length_replicate]
    omega)
  have fin : dApp fLst (dStar (dVar 5) (dStar (dBin pMul (dApp fLst (dCons (dC (.int 0)) (dNil))) (dBin pSub (dVar 2) (dApp fLen (dCons (dVar 5) (dNil))))) (dNil))) noTh [a, b, some (.int (N : Int)), c, d, some (.tup (as.map .int)), g, h] s = .ok (.ref (s.length + 2)) (s ++ [.lst [.int 0], .lst ((List.replicate (N - as.length) (0 : Int)).map .int), .lst ((padI N as).map .int)]) := by
    have e : ∀ R, dApp fLst R noTh [a, b, some (.int (N : Int)), c, d, some (.tup (as.map .int)), g, h] s = (R noTh [a, b, some (.int (N : Int)), c, d, some (.tup (as.map .int)), g, h] s).bind fun xs s1 => fLst xs s1 := fun _ => rfl
    rw [e, st1]
    show (if szOk ((padI N as).map PV.int).length = true then Res.ok (PV.ref _) _ else .bad) = _
    rw [if_pos hz]
    simp
  exact fin
theorem zip_eq : ∀ (as bs : List Int), (zV (as.map .int) (bs.map .int)).map (fun p => match p with
    | .tup [.int a, .int b] => PV.int ((a + b) % 997)
    | p => p) = (zipA as bs).map .int
  | a :: as, b :: bs => by
    show _ :: (zV (as.map .int) (bs.map .int)).map _ = _
    rw [zip_eq as bs]
    rfl
  | [], _ => rfl
  | _ :: _, [] => rfl
theorem zV_mem : ∀ {as bs : List Int} {x : PV}, x ∈ zV (as.map .int) (bs.map .int) → ∃ a b, x = .tup [.int a, .int b]
  | a :: as, b :: bs, x, h => by
    rcases List.mem_cons.mp (show x ∈ PV.tup [.int a, .int b] :: zV (as.map .int) (bs.map .int) from h) with rfl | h
    · exact ⟨a, b, rfl⟩
    · exact zV_mem h
  | [], bs, x, h => by cases h
  | _ :: _, [], x, h => by cases h
theorem zipA_len : ∀ (as bs : List Int), (zipA as bs).length ≤ as.length
  | a :: as, b :: bs => by
    show (zipA as bs).length + 1 ≤ as.length + 1
    have := zipA_len as bs
    omega
  | [], _ => Nat.le_refl _
  | _ :: _, [] => Nat.zero_le _
theorem r_sum_in : Ref s_sum_in m_sum_in := by
  refine Ref.of fun ps st hp hs => ?_
  unfold s_sum_in
  split
  · rename_i xs ys
    split
    · rename_i as bs e1 e2
      by_cases hc : (okCs as && okCs bs) = true
      · rw [if_pos hc]
        rw [Bool.and_eq_true] at hc
        obtain ⟨la, ca⟩ := cell_of hc.1
        obtain ⟨lb, cb⟩ := cell_of hc.2
        obtain rfl := ints_of e1
        obtain rfl := ints_of e2
        obtain ⟨n1, n2, n3⟩ := maxN_le as.length bs.length
        have hN : maxN as.length bs.length ≤ 1000 := by rcases n3 with z | z <;> omega
        have mx := maxN_eq as.length bs.length
        generalize maxN as.length bs.length = N at *
        -- the size
        have q0 : q_d_sum_in_0 noTh (env0 8 [.tup (as.map .int), .tup (bs.map .int)]) st = .nx [some (.tup (as.map .int)), some (.tup (bs.map .int)), some (.int (N : Int)), none, none, none, none, none] st := by
          simp only [q_d_sum_in_0, mkF, env0, dSeq, dSet, dIfS, dRet, dRetN, dExp, dBin, dUn, dVar, dC, dCons, dNil, dApp, dMet, dCall, dCallV, b_ok, b_bad, s_ok, f_rt, f_nx, dTB, dTst, dNotT, dOrT, dAndT, dAnd, dOr, dNot, dChain, dIf, dSkip, dNever, Tg.set, e_le, e_lt, e_ge, e_gt, e_add, e_sub, List.map_cons, List.map_nil, List.length_cons, List.length_nil, List.replicate, List.cons_append, List.nil_append, List.append_nil, List.getElem?_cons_zero, List.getElem?_cons_succ, List.set_cons_zero, List.set_cons_succ, Nat.sub_self, Nat.reduceSub, Nat.reduceAdd, wipeE, len_tup, e_max2, mx]
        -- both padded
        have p1 := pad_ok (a := some (.tup (as.map .int))) (b := some (.tup (bs.map .int))) (c := none) (d := none) (f := none) (g := none) (h := none) (N := N) n1 hN (st ++ [.lst []])
        generalize hG1 : [SO.lst [PV.int 0], SO.lst ((List.replicate (N - as.length) (0 : Int)).map PV.int), SO.lst ((padI N as).map PV.int)] = G1 at p1
        have l1 : G1.length = 3 := by rw [← hG1]; rfl
        have p2 := pad_ok (a := some (.tup (as.map .int))) (b := some (.tup (bs.map .int))) (c := none) (d := none) (f := none) (g := none) (h := none) (N := N) n2 hN (st ++ .lst [.ref (st.length + 3)] :: G1)
        generalize hG2 : [SO.lst [PV.int 0], SO.lst ((List.replicate (N - bs.length) (0 : Int)).map PV.int), SO.lst ((padI N bs).map PV.int)] = G2 at p2
        have l2 : (st ++ [SO.lst []]).length = st.length + 1 := by simp
        have l3 : (st ++ SO.lst [.ref (st.length + 3)] :: G1).length = st.length + 4 := by simp [l1]
        rw [l2] at p1
        rw [l3] at p2
        have lc : dLc (dIt (dApp fTup (dCons (dVar 0) (dCons (dVar 1) (dNil))))) (.nm 5) (dYes) (bo_sum_in_1) [5] noTh [some (.tup (as.map .int)), some (.tup (bs.map .int)), some (.int (N : Int)), none, none, none, none, none] st = .ok (.ref st.length) (st ++ .lst [.ref (st.length + 3), .ref (st.length + 6)] :: (G1 ++ G2)) := by
          have it : dIt (dApp fTup (dCons (dVar 0) (dCons (dVar 1) (dNil)))) noTh [some (.tup (as.map .int)), some (.tup (bs.map .int)), some (.int (N : Int)), none, none, none, none, none] st = .ok (.vals [.tup (as.map .int), .tup (bs.map .int)]) st := rfl
          have s1 : lcV (.nm 5) dYes bo_sum_in_1 [5] noTh st.length [.tup (as.map .int), .tup (bs.map .int)] [some (.tup (as.map .int)), some (.tup (bs.map .int)), some (.int (N : Int)), none, none, none, none, none] (st ++ [.lst []]) = .ok () (st ++ .lst [.ref (st.length + 3), .ref (st.length + 6)] :: (G1 ++ G2)) := by
            unfold lcV
            simp only [Tg.set, List.set_cons_zero, List.set_cons_succ, dYes, Res.bind]
            rw [p1]
            dsimp only [Res.bind]
            rw [List.append_assoc, show [SO.lst []] ++ G1 = .lst [] :: G1 from rfl, get_end]
            dsimp only
            rw [if_pos (by rfl), set_end]
            unfold lcV
            simp only [Tg.set, List.set_cons_zero, List.set_cons_succ, dYes, Res.bind, List.nil_append]
            rw [p2]
            dsimp only [Res.bind]
            rw [List.append_assoc, List.cons_append, get_end]
            dsimp only
            rw [if_pos (by rfl), set_end]
            unfold lcV
            rfl
          unfold dLc
          rw [it]
          dsimp only [Res.bind]
          rw [show wipeE [some (PV.tup (as.map .int)), some (.tup (bs.map .int)), some (.int (N : Int)), none, none, none, none, none] [5] = [some (.tup (as.map .int)), some (.tup (bs.map .int)), some (.int (N : Int)), none, none, none, none, none] from rfl, s1]
          rfl
        have lk : lstAt (st ++ .lst [.ref (st.length + 3), .ref (st.length + 6)] :: (G1 ++ G2)) st.length = some [.ref (st.length + 3), .ref (st.length + 6)] := lst_end st _ _
        generalize hS : st ++ SO.lst [.ref (st.length + 3), .ref (st.length + 6)] :: (G1 ++ G2) = S at lc lk
        have g3 : lstAt S (st.length + 3) = some ((padI N as).map .int) := by
          rw [← hS]
          unfold lstAt
          rw [get_add, ← hG1]
          rfl
        have g6 : lstAt S (st.length + 6) = some ((padI N bs).map .int) := by
          rw [← hS]
          unfold lstAt
          rw [get_add, ← hG1, ← hG2]
          rfl
        have q1 : q_d_sum_in_1 noTh [some (.tup (as.map .int)), some (.tup (bs.map .int)), some (.int (N : Int)), none, none, none, none, none] st = .nx [some (.tup (as.map .int)), some (.tup (bs.map .int)), some (.int (N : Int)), some (.ref (st.length + 3)), some (.ref (st.length + 6)), none, none, none] S := by
          unfold q_d_sum_in_1 dUnL
          rw [lc]
          dsimp only [Res.s]
          rw [lk]
          rfl
        have zc : dLc (dRng fZip (dCons (dVar 3) (dCons (dVar 4) (dNil)))) (.tp [.nm 6, .nm 7]) (dYes) (bo_sum_in_0) [6, 7] noTh [some (.tup (as.map .int)), some (.tup (bs.map .int)), some (.int (N : Int)), some (.ref (st.length + 3)), some (.ref (st.length + 6)), none, none, none] S = .ok (.ref S.length) (S ++ [.lst ((zipA (padI N as) (padI N bs)).map .int)]) := by
          have it : dRng fZip (dCons (dVar 3) (dCons (dVar 4) (dNil))) noTh [some (.tup (as.map .int)), some (.tup (bs.map .int)), some (.int (N : Int)), some (.ref (st.length + 3)), some (.ref (st.length + 6)), none, none, none] S = .ok (.dyn (((padI N as).map PV.int).length + 1) (zG (st.length + 3) (st.length + 6))) S := by
            simp only [dRng, mkF, env0, dSeq, dSet, dIfS, dRet, dRetN, dExp, dBin, dUn, dVar, dC, dCons, dNil, dApp, dMet, dCall, dCallV, b_ok, b_bad, s_ok, f_rt, f_nx, dTB, dTst, dNotT, dOrT, dAndT, dAnd, dOr, dNot, dChain, dIf, dSkip, dNever, Tg.set, e_le, e_lt, e_ge, e_gt, e_add, e_sub, List.map_cons, List.map_nil, List.length_cons, List.length_nil, List.replicate, List.cons_append, List.nil_append, List.append_nil, List.getElem?_cons_zero, List.getElem?_cons_succ, List.set_cons_zero, List.set_cons_succ, Nat.sub_self, Nat.reduceSub, Nat.reduceAdd, wipeE, fZip]
            rw [g3]
            dsimp only
            rw [g6]
          have h := dLc_dyn (t := .tp [.nm 6, .nm 7]) (es := fun p => match p with
            | .tup [x, y] => [some (.tup (as.map .int)), some (.tup (bs.map .int)), some (.int (N : Int)), some (.ref (st.length + 3)), some (.ref (st.length + 6)), none, some x, some y]
            | _ => []) (ts := dYes) (el := bo_sum_in_0) (p := fun _ => true) (h := fun p => match p with
            | .tup [.int a, .int b] => PV.int ((a + b) % 997)
            | p => p) (own := [6, 7]) it (xs := zV ((padI N as).map .int) ((padI N bs).map .int)) (fun j acc => zG_of (lstAt_app g3) (lstAt_app g6) j) (by rw [zV_len]; exact Nat.lt_succ_of_le (Nat.min_le_left _ _)) (by
              rw [zV_len]
              refine Nat.le_trans (Nat.min_le_left _ _) ?_
              unfold padI
              rw [List.length_map, List.length_append, List.length_replicate]
              omega) (fun x hx => by
              obtain ⟨u, v, rfl⟩ := zV_mem hx
              rfl) (fun x hx acc => rfl) (fun x hx _ acc => by
              obtain ⟨u, v, rfl⟩ := zV_mem hx
              simp only [bo_sum_in_0, mkF, env0, dSeq, dSet, dIfS, dRet, dRetN, dExp, dBin, dUn, dVar, dC, dCons, dNil, dApp, dMet, dCall, dCallV, b_ok, b_bad, s_ok, f_rt, f_nx, dTB, dTst, dNotT, dOrT, dAndT, dAnd, dOr, dNot, dChain, dIf, dSkip, dNever, Tg.set, e_le, e_lt, e_ge, e_gt, e_add, e_sub, List.map_cons, List.map_nil, List.length_cons, List.length_nil, List.replicate, List.cons_append, List.nil_append, List.append_nil, List.getElem?_cons_zero, List.getElem?_cons_succ, List.set_cons_zero, List.set_cons_succ, Nat.sub_self, Nat.reduceSub, Nat.reduceAdd, wipeE, e_mod _ (show (0 : Int) < 997 by decide)])
          rw [h, List.filter_eq_self.mpr (fun _ _ => rfl), zip_eq]
        obtain ⟨g, tr⟩ := trimmed_ok (k := S.length) (st := S ++ [.lst ((zipA (padI N as) (padI N bs)).map .int)]) (lst_end S _ []) (by
          have := zipA_len (padI N as) (padI N bs)
          unfold padI at this
          rw [List.length_append, List.length_replicate] at this
          unfold padI
          omega)
        have t2 : t_d_sum_in_2 noTh [some (.tup (as.map .int)), some (.tup (bs.map .int)), some (.int (N : Int)), some (.ref (st.length + 3)), some (.ref (st.length + 6)), none, none, none] S = .rt (.tup ((trimI (zipA (padI N as) (padI N bs))).map .int)) ((S ++ [.lst ((zipA (padI N as) (padI N bs)).map .int)]) ++ g) := by
          simp only [t_d_sum_in_2, mkF, env0, dSeq, dSet, dIfS, dRet, dRetN, dExp, dBin, dUn, dVar, dC, dCons, dNil, dApp, dMet, dCall, dCallV, b_ok, b_bad, s_ok, f_rt, f_nx, dTB, dTst, dNotT, dOrT, dAndT, dAnd, dOr, dNot, dChain, dIf, dSkip, dNever, Tg.set, e_le, e_lt, e_ge, e_gt, e_add, e_sub, List.map_cons, List.map_nil, List.length_cons, List.length_nil, List.replicate, List.cons_append, List.nil_append, List.append_nil, List.getElem?_cons_zero, List.getElem?_cons_succ, List.set_cons_zero, List.set_cons_succ, Nat.sub_self, Nat.reduceSub, Nat.reduceAdd, wipeE, zc, Nat.beq, if_true, tr]
        have fin : m_sum_in [.tup (as.map .int), .tup (bs.map .int)] st = .ok (.tup ((trimI (zipA (padI N as) (padI N bs))).map .int)) (st ++ (.lst [.ref (st.length + 3), .ref (st.length + 6)] :: (G1 ++ G2) ++ ([.lst ((zipA (padI N as) (padI N bs)).map .int)] ++ g))) := by
          show mkF 8 d_sum_in _ _ = _
          rw [t_d_sum_in]
          unfold mkF t_d_sum_in_0 t_d_sum_in_1
          rw [sq q0, sq q1, t2, ← hS]
          simp only [List.append_assoc]
          rfl
        exact LeR.plain fin (clVs_ints _ _) hs
      · rw [if_neg hc]
        trivial
    · trivial
  · trivial
end K15
end
section
set_option maxRecDepth 100000
set_option maxHeartbeats 4000000
namespace K15
open PySem PySem.Spec PyProof.Rows L2 Mi
theorem le1 (a c : Nat) : (!decide (([c] : List Nat) < [a])) = decide (a ≤ c) := by
  have h : (([c] : List Nat) < [a]) ↔ c < a := by
    rw [List.cons_lt_cons_iff]
    simp
  by_cases k : a ≤ c
  · rw [decide_eq_true k, decide_eq_false (by rw [h]; omega)]
    rfl
  · rw [decide_eq_false k, decide_eq_true (by rw [h]; omega)]
    rfl
theorem e_le1 (a c : Nat) (st : Sto) : pLe (.str [a]) (.str [c]) st = .ok (.bl (decide (a ≤ c))) st := by
  show Res.ok (PV.bl (!decide (([c] : List Nat) < [a]))) st = _
  rw [le1]
theorem all_true {α : Type} (xs : List α) : xs.filter (fun _ => true) = xs := by simp
theorem is_text_ok {x : List Nat} (hl : x.length ≤ 60000) (st : Sto) : m_is_text [.str x] st = .ok (.bl (x.all sgB)) (st ++ [.lst (x.map fun c => .bl (sgB c))]) := by
  have hi : fIsi .str (.str x) st = .ok (.bl true) st := rfl
  have hz : szOk x.length = true := Nat.ble_eq_true_of_le (by omega)
  have hc : ¬ ((x.length : Int) > 60000) := by omega
  have hle := dLc_vals (it := dIt (dVar 0)) (i := 1) (ts := dYes) (el := bo_is_text_0) (p := fun _ => true) (h := fun q => .bl (match q with | .str [c] => sgB c | _ => false)) (own := [1]) (th := noTh) (env := [some (.str x), none]) (st := st) (s := st) (xs := x.map fun c => .str [c]) rfl (by rw [List.length_map]; omega) (fun _ _ _ => rfl) (fun q hq _ acc => by
    obtain ⟨c, _, rfl⟩ := List.mem_map.mp hq
    simp only [bo_is_text_0, dChain, mkF, env0, dSeq, dSet, dIfS, dRet, dRetN, dExp, dBin, dUn, dVar, dC, dCons, dNil, dApp, dMet, dCall, dCallV, b_ok, b_bad, s_ok, f_rt, f_nx, dTB, dTst, dNotT, dOrT, dAndT, dAnd, dOr, dNot, dChain, dIf, dSkip, dNever, Tg.set, e_le, e_lt, e_ge, e_gt, e_add, e_sub, List.map_cons, List.map_nil, List.length_cons, List.length_nil, List.replicate, List.cons_append, List.nil_append, List.append_nil, List.getElem?_cons_zero, List.getElem?_cons_succ, List.set_cons_zero, List.set_cons_succ, Nat.sub_self, Nat.reduceSub, Nat.reduceAdd, wipeE, e_le1]
    by_cases h1 : 32 ≤ c
    · simp only [h1, decide_true, mkF, env0, dSeq, dSet, dIfS, dRet, dRetN, dExp, dBin, dUn, dVar, dC, dCons, dNil, dApp, dMet, dCall, dCallV, b_ok, b_bad, s_ok, f_rt, f_nx, dTB, dTst, dNotT, dOrT, dAndT, dAnd, dOr, dNot, dChain, dIf, dSkip, dNever, Tg.set, e_le, e_lt, e_ge, e_gt, e_add, e_sub, List.map_cons, List.map_nil, List.length_cons, List.length_nil, List.replicate, List.cons_append, List.nil_append, List.append_nil, List.getElem?_cons_zero, List.getElem?_cons_succ, List.set_cons_zero, List.set_cons_succ, Nat.sub_self, Nat.reduceSub, Nat.reduceAdd, wipeE, e_le1, sgB, Bool.true_and]
    · simp only [h1, decide_false, sgB, Bool.false_and])
  rw [all_true, List.map_map] at hle
  have hle2 : dLc (dIt (dVar 0)) (.nm 1) dYes bo_is_text_0 [1] noTh [some (.str x), none] st = .ok (.ref st.length) (st ++ [.lst (x.map fun c => .bl (sgB c))]) := hle
  simp only [m_is_text, d_is_text, mkF, env0, dSeq, dSet, dIfS, dRet, dRetN, dExp, dBin, dUn, dVar, dC, dCons, dNil, dApp, dMet, dCall, dCallV, b_ok, b_bad, s_ok, f_rt, f_nx, dTB, dTst, dNotT, dOrT, dAndT, dAnd, dOr, dNot, dChain, dIf, dSkip, dNever, Tg.set, e_le, e_lt, e_ge, e_gt, e_add, e_sub, List.map_cons, List.map_nil, List.length_cons, List.length_nil, List.replicate, List.cons_append, List.nil_append, List.append_nil, List.getElem?_cons_zero, List.getElem?_cons_succ, List.set_cons_zero, List.set_cons_succ, Nat.sub_self, Nat.reduceSub, Nat.reduceAdd, wipeE, hi, pTru, Bool.not_true, e_len _ hz, hc, decide_false, hle2]
  rw [e_all (lst_end _ _ _) (bls_map sgB x), List.all_map]
  rfl
theorem okT_of {x : List Nat} (h : okT x = true) : x.length ≤ 60000 ∧ x.all sgB = true ∧ szOk x.length = true := by
  unfold okT at h
  rw [Bool.and_eq_true] at h
  have h1 := Nat.le_of_ble_eq_true h.1
  exact ⟨h1, h.2, Nat.ble_eq_true_of_le (by omega)⟩
theorem three_of : ∀ {y : List Nat}, y.length = 3 → ∃ p q r, y = [p, q, r]
  | [p, q, r], _ => ⟨p, q, r, rfl⟩
theorem int_three {y : List Nat} (hl : y.length = 3) (hd : ∀ c ∈ y, 48 ≤ c ∧ c ≤ 57) (st : Sto) : fIntX [.str y] st = .ok (.int (v3 y)) st := by
  obtain ⟨p, q, r, rfl⟩ := three_of hl
  have hp := hd p (by simp)
  have hq := hd q (by simp)
  have hr := hd r (by simp)
  have e := int3 (p - 48) (q - 48) (r - 48) (by omega) (by omega) (by omega)
  rw [show 48 + (p - 48) = p by omega, show 48 + (q - 48) = q by omega, show 48 + (r - 48) = r by omega] at e
  unfold fIntX
  dsimp only
  rw [if_pos (show [p, q, r].length.ble 640 = true from rfl), e]
  rfl
theorem cut_three {x : List Nat} {i : Nat} (h : 3 * i + 3 ≤ x.length) : ((x.drop (3 * i)).take 3).length = 3 := by
  rw [List.length_take, List.length_drop]
  omega
theorem cut_mem {x : List Nat} {i c : Nat} (h : c ∈ (x.drop i).take 3) : c ∈ x := List.mem_of_mem_drop (List.mem_of_mem_take h)
theorem told_el {x : List Nat} {i : Nat} {a b d : Option PV} (hd : ∀ c ∈ x, 48 ≤ c ∧ c ≤ 57) (h : 3 * i + 3 ≤ x.length) (hz : szOk x.length = true) (st : Sto) : bo_cells_told_1 noTh [some (.str x), a, b, some (.int (3 * i : Nat)), d] st = .ok (.int (v3 ((x.drop (3 * i)).take 3))) st := by
  have e1 : fSl (.str x) (some ((3 * i : Nat) : Int)) (some ((3 * i : Nat) + 3)) st = .ok (.str ((x.drop (3 * i)).take 3)) st := by
    have e := e_cut (x := x) (i := 3 * i) (j := 3 * i + 3) (by omega) (by omega) hz st
    rw [show 3 * i + 3 - 3 * i = 3 by omega] at e
    exact e
  simp only [bo_cells_told_1, mkF, env0, dSeq, dSet, dIfS, dRet, dRetN, dExp, dBin, dUn, dVar, dC, dCons, dNil, dApp, dMet, dCall, dCallV, b_ok, b_bad, s_ok, f_rt, f_nx, dTB, dTst, dNotT, dOrT, dAndT, dAnd, dOr, dNot, dChain, dIf, dSkip, dNever, Tg.set, e_le, e_lt, e_ge, e_gt, e_add, e_sub, List.map_cons, List.map_nil, List.length_cons, List.length_nil, List.replicate, List.cons_append, List.nil_append, List.append_nil, List.getElem?_cons_zero, List.getElem?_cons_succ, List.set_cons_zero, List.set_cons_succ, Nat.sub_self, Nat.reduceSub, Nat.reduceAdd, wipeE, dSl, dPt, e1]
  exact int_three (cut_three h) (fun c hc => hd c (cut_mem hc)) st

theorem nums_len (x : List Nat) : ∀ n i, (nums x i n).length = n
  | 0, _ => rfl
  | n + 1, i => by rw [nums, List.length_cons, nums_len x n]
theorem rng_nums (x : List Nat) (h : PV → PV) (hh : ∀ i : Nat, h (.int (3 * i : Nat)) = .int (v3 ((x.drop (3 * i)).take 3))) : ∀ n (i : Nat), (rngV ((3 * i : Nat) : Int) 3 n).map h = (nums x i n).map PV.int
  | 0, _ => rfl
  | n + 1, i => by
    rw [rngV, List.map_cons, hh, nums, List.map_cons]
    have e : ((3 * i : Nat) : Int) + 3 = ((3 * (i + 1) : Nat) : Int) := by omega
    rw [e, rng_nums x h hh n (i + 1)]
theorem rng3_mem {n : Nat} {p : PV} (h : p ∈ rngV 0 3 n) : ∃ i : Nat, p = .int (3 * i : Nat) ∧ i < n := by
  obtain ⟨i, hi⟩ := List.getElem?_of_mem h
  obtain ⟨h1, h2⟩ := rngV_get 3 n 0 i p hi
  exact ⟨i, by rw [h2]; congr 1; omega, h1⟩
theorem size3 (n : Nat) : (Builtin.Range.rangeSize 0 ((3 * n : Nat) : Int) 3).toNat = n := by
  unfold Builtin.Range.rangeSize
  simp
  split <;> omega

theorem rng3_ok {n : Nat} (hn : n ≤ 20000) (st : Sto) : fRng3 [.int 0, .int (3 * n : Nat), .int 3] st = .ok (.vals (rngV 0 3 n)) st := by
  have e := size3 n
  have h : okC 0 ((3 * n : Nat) : Int) 3 (Builtin.Range.rangeSize 0 ((3 * n : Nat) : Int) 3).toNat = true := by
    have h0 : 0 ≤ Builtin.Range.rangeSize 0 ((3 * n : Nat) : Int) 3 := by
      unfold Builtin.Range.rangeSize
      simp
      split <;> omega
    unfold okC
    rw [Bool.and_eq_true, Bool.and_eq_true, Bool.and_eq_true]
    refine ⟨⟨⟨rfl, rfl⟩, ?_⟩, ?_⟩
    · have hs : Builtin.Range.rangeSize 0 ((3 * n : Nat) : Int) 3 = n := by omega
      unfold Builtin.Range.small
      rw [hs]
      simp [Builtin.Range.rangeFitsLong]
      omega
    · rw [beq_iff_eq]
      omega
  unfold fRng3
  dsimp only
  rw [if_pos h, e]
theorem it_gen (f : List PV → Sto → Res ItD) {x : List Nat} {env : Mi.Env} (hz : szOk x.length = true) (st : Sto) : dRng f (dCons (dC (.int 0)) (dCons (dApp fLen (dCons (dVar 0) (dNil))) (dCons (dC (.int 3)) (dNil)))) noTh (some (.str x) :: env) st = f [.int 0, .int x.length, .int 3] st := by
  simp only [dRng, mkF, env0, dSeq, dSet, dIfS, dRet, dRetN, dExp, dBin, dUn, dVar, dC, dCons, dNil, dApp, dMet, dCall, dCallV, b_ok, b_bad, s_ok, f_rt, f_nx, dTB, dTst, dNotT, dOrT, dAndT, dAnd, dOr, dNot, dChain, dIf, dSkip, dNever, Tg.set, e_le, e_lt, e_ge, e_gt, e_add, e_sub, List.map_cons, List.map_nil, List.length_cons, List.length_nil, List.replicate, List.cons_append, List.nil_append, List.append_nil, List.getElem?_cons_zero, List.getElem?_cons_succ, List.set_cons_zero, List.set_cons_succ, Nat.sub_self, Nat.reduceSub, Nat.reduceAdd, wipeE, e_len _ hz]
theorem it_nums {x : List Nat} {n : Nat} {env : Mi.Env} (hl : x.length = 3 * n) (hn : n ≤ 20000) (hz : szOk x.length = true) (st : Sto) : dRng fRng3 (dCons (dC (.int 0)) (dCons (dApp fLen (dCons (dVar 0) (dNil))) (dCons (dC (.int 3)) (dNil)))) noTh (some (.str x) :: env) st = .ok (.vals (rngV 0 3 n)) st := by
  rw [it_gen fRng3 hz st, hl]
  exact rng3_ok hn st

theorem lc_nums {x : List Nat} {n : Nat} {b d : Option PV} (hd : ∀ c ∈ x, 48 ≤ c ∧ c ≤ 57) (hl : x.length = 3 * n) (hn : n ≤ 20000) (st : Sto) : dLc (dRng fRng3 (dCons (dC (.int 0)) (dCons (dApp fLen (dCons (dVar 0) (dNil))) (dCons (dC (.int 3)) (dNil))))) (.nm 3) (dYes) (bo_cells_told_1) [3] noTh [some (.str x), none, b, none, d] st = .ok (.ref st.length) (st ++ [.lst ((nums x 0 n).map .int)]) := by
  have hz : szOk x.length = true := Nat.ble_eq_true_of_le (by omega)
  have hi := it_nums (env := [none, b, none, d]) hl hn hz st
  have hle := dLc_vals (i := 3) (ts := dYes) (el := bo_cells_told_1) (p := fun _ => true) (h := fun q => match q with | .int j => .int (v3 ((x.drop j.toNat).take 3)) | _ => .non) (own := [3]) hi (by rw [rngV_len]; omega) (fun _ _ _ => rfl) (fun q hq _ acc => by
    obtain ⟨i, rfl, hi⟩ := rng3_mem hq
    exact told_el hd (by omega) hz _)
  have r := rng_nums x (fun q => match q with | .int j => .int (v3 ((x.drop j.toNat).take 3)) | _ => .non) (fun i => rfl) n 0
  rw [show ((3 * 0 : Nat) : Int) = 0 from rfl] at r
  rw [all_true, r] at hle
  exact hle

theorem memD : ∀ c : Nat, decide (c ∈ [48, 49, 50, 51, 52, 53, 54, 55, 56, 57]) = digB c := by
  intro c
  unfold digB
  by_cases h : 48 ≤ c ∧ c ≤ 57
  · rw [decide_eq_true h.1, decide_eq_true h.2]
    refine decide_eq_true ?_
    simp only [List.mem_cons, List.not_mem_nil, or_false]
    omega
  · rw [← Bool.decide_and, decide_eq_false h]
    refine decide_eq_false ?_
    simp only [List.mem_cons, List.not_mem_nil, or_false]
    omega
theorem e_inD (c : Nat) (st : Sto) : pInK (.str [c]) (.str [48, 49, 50, 51, 52, 53, 54, 55, 56, 57]) st = .ok (.bl (digB c)) st := by
  rw [← memD]
  rfl
theorem e_ninD (c : Nat) (st : Sto) : pNotIn (.str [c]) (.str [48, 49, 50, 51, 52, 53, 54, 55, 56, 57]) st = .ok (.bl (!digB c)) st := by
  rw [← memD]
  rfl
theorem lc_dig {x : List Nat} {a b c d : Option PV} (hl : x.length ≤ 60000) (st : Sto) : dLc (dIt (dVar 0)) (.nm 2) (dYes) (bo_cells_told_2) [2] noTh [some (.str x), a, b, c, d] st = .ok (.ref st.length) (st ++ [.lst (x.map fun c => .bl (digB c))]) := by
  have hle := dLc_vals (it := dIt (dVar 0)) (i := 2) (ts := dYes) (el := bo_cells_told_2) (p := fun _ => true) (h := fun q => .bl (match q with | .str [c] => digB c | _ => false)) (own := [2]) (th := noTh) (env := [some (.str x), a, b, c, d]) (st := st) (s := st) (xs := x.map fun c => .str [c]) rfl (by rw [List.length_map]; omega) (fun _ _ _ => rfl) (fun q hq _ acc => by
    obtain ⟨c, _, rfl⟩ := List.mem_map.mp hq
    simp only [bo_cells_told_2, mkF, env0, dSeq, dSet, dIfS, dRet, dRetN, dExp, dBin, dUn, dVar, dC, dCons, dNil, dApp, dMet, dCall, dCallV, b_ok, b_bad, s_ok, f_rt, f_nx, dTB, dTst, dNotT, dOrT, dAndT, dAnd, dOr, dNot, dChain, dIf, dSkip, dNever, Tg.set, e_le, e_lt, e_ge, e_gt, e_add, e_sub, List.map_cons, List.map_nil, List.length_cons, List.length_nil, List.replicate, List.cons_append, List.nil_append, List.append_nil, List.getElem?_cons_zero, List.getElem?_cons_succ, List.set_cons_zero, List.set_cons_succ, Nat.sub_self, Nat.reduceSub, Nat.reduceAdd, wipeE, e_inD])
  rw [all_true, List.map_map] at hle
  exact hle
theorem lc_small {xs : List Int} {a b c d : Option PV} (hl : xs.length ≤ 60000) (st : Sto) : dLc (dIt (dVar 1)) (.nm 4) (dYes) (bo_cells_told_0) [4] noTh [a, some (.tup (xs.map .int)), b, c, d] st = .ok (.ref st.length) (st ++ [.lst (xs.map fun v => .bl (decide (v < 997)))]) := by
  have hle := dLc_vals (it := dIt (dVar 1)) (i := 4) (ts := dYes) (el := bo_cells_told_0) (p := fun _ => true) (h := fun q => .bl (match q with | .int v => decide (v < 997) | _ => false)) (own := [4]) (th := noTh) (env := [a, some (.tup (xs.map .int)), b, c, d]) (st := st) (s := st) (xs := xs.map PV.int) rfl (by rw [List.length_map]; omega) (fun _ _ _ => rfl) (fun q hq _ acc => by
    obtain ⟨v, _, rfl⟩ := List.mem_map.mp hq
    simp only [bo_cells_told_0, mkF, env0, dSeq, dSet, dIfS, dRet, dRetN, dExp, dBin, dUn, dVar, dC, dCons, dNil, dApp, dMet, dCall, dCallV, b_ok, b_bad, s_ok, f_rt, f_nx, dTB, dTst, dNotT, dOrT, dAndT, dAnd, dOr, dNot, dChain, dIf, dSkip, dNever, Tg.set, e_le, e_lt, e_ge, e_gt, e_add, e_sub, List.map_cons, List.map_nil, List.length_cons, List.length_nil, List.replicate, List.cons_append, List.nil_append, List.append_nil, List.getElem?_cons_zero, List.getElem?_cons_succ, List.set_cons_zero, List.set_cons_succ, Nat.sub_self, Nat.reduceSub, Nat.reduceAdd, wipeE])
  rw [all_true, List.map_map] at hle
  exact hle
theorem e_tuple {s : Sto} {k : Nat} {xs : List PV} (h : lstAt s k = some xs) : fTuple [.ref k] s = .ok (.tup xs) s := by
  unfold fTuple seqOf
  dsimp only
  rw [h]
theorem e_ne0 (i : Int) (st : Sto) : pNe (.int i) (.int 0) st = .ok (.bl (!decide (i = 0))) st := rfl
theorem told_none1 {x : List Nat} (h : ¬ (x.length % 3 = 0)) : told x = none := by
  unfold told
  rw [if_neg]
  intro z
  rw [Bool.and_eq_true, Bool.and_eq_true, beq_iff_eq] at z
  exact h z.1.1
theorem told_none2 {x : List Nat} (h : ¬ (x.all digB = true)) : told x = none := by
  unfold told
  rw [if_neg]
  intro z
  rw [Bool.and_eq_true, Bool.and_eq_true, beq_iff_eq] at z
  exact h z.1.2
theorem dig_all {x : List Nat} (h : x.all digB = true) : ∀ c ∈ x, 48 ≤ c ∧ c ≤ 57 := fun c hc => by
  have := List.all_eq_true.mp h c hc
  unfold digB at this
  rw [Bool.and_eq_true] at this
  exact ⟨of_decide_eq_true this.1, of_decide_eq_true this.2⟩
theorem cells_told_ok {x : List Nat} (hl : x.length ≤ 60000) (st : Sto) : ∃ g, m_cells_told [.str x] st = .ok (optT (told x)) (st ++ g) := by
  have hz : szOk x.length = true := Nat.ble_eq_true_of_le (by omega)
  have h3 : ∀ s, pMod (.int (x.length : Int)) (.int 3) s = .ok (.int ((x.length : Int) % 3)) s := fun s => e_mod s (by decide)
  by_cases h : x.length % 3 = 0
  · have h4 : (x.length : Int) % 3 = 0 := by omega
    have hd := lc_dig (a := none) (b := none) (c := none) (d := none) hl st
    by_cases hx : x.all digB = true
    · have hn := lc_nums (x := x) (n := x.length / 3) (b := none) (d := none) (dig_all hx) (by omega) (by omega) (st ++ [.lst (x.map fun c => .bl (digB c))])
      have hs := lc_small (xs := nums x 0 (x.length / 3)) (a := some (.str x)) (b := none) (c := none) (d := none) (by rw [nums_len]; omega) ((st ++ [.lst (x.map fun c => .bl (digB c))]) ++ [.lst ((nums x 0 (x.length / 3)).map .int)])
      have ha := e_all (lst_end st (x.map fun c => PV.bl (digB c)) []) (bls_map digB x)
      have ht := e_tuple (lst_end (st ++ [.lst (x.map fun c => .bl (digB c))]) ((nums x 0 (x.length / 3)).map PV.int) [])
      have hb := e_all (lst_end ((st ++ [.lst (x.map fun c => .bl (digB c))]) ++ [.lst ((nums x 0 (x.length / 3)).map .int)]) ((nums x 0 (x.length / 3)).map fun v => PV.bl (decide (v < 997))) []) (bls_map (fun v : Int => decide (v < 997)) (nums x 0 (x.length / 3)))
      have ea : (x.map digB).all id = true := by
        rw [List.all_map]
        exact hx
      rw [ea] at ha
      have eb : ((nums x 0 (x.length / 3)).map fun v : Int => decide (v < 997)).all id = (nums x 0 (x.length / 3)).all fun v => decide (v < 997) := by
        rw [List.all_map]
        rfl
      rw [eb] at hb
      refine ⟨[.lst (x.map fun c => .bl (digB c)), .lst ((nums x 0 (x.length / 3)).map .int), .lst ((nums x 0 (x.length / 3)).map fun v => .bl (decide (v < 997)))], ?_⟩
      have et : told x = if ((nums x 0 (x.length / 3)).all fun v => decide (v < 997)) = true then some (nums x 0 (x.length / 3)) else none := by
        unfold told
        rw [hx, show (x.length % 3 == 0) = true from beq_iff_eq.mpr h, Bool.true_and, Bool.true_and]
      rw [et]
      simp only [m_cells_told, d_cells_told, mkF, env0, dSeq, dSet, dIfS, dRet, dRetN, dExp, dBin, dUn, dVar, dC, dCons, dNil, dApp, dMet, dCall, dCallV, b_ok, b_bad, s_ok, f_rt, f_nx, dTB, dTst, dNotT, dOrT, dAndT, dAnd, dOr, dNot, dChain, dIf, dSkip, dNever, Tg.set, e_le, e_lt, e_ge, e_gt, e_add, e_sub, List.map_cons, List.map_nil, List.length_cons, List.length_nil, List.replicate, List.cons_append, List.nil_append, List.append_nil, List.getElem?_cons_zero, List.getElem?_cons_succ, List.set_cons_zero, List.set_cons_succ, Nat.sub_self, Nat.reduceSub, Nat.reduceAdd, wipeE, e_len _ hz, h3, h4, e_ne0, decide_true, Bool.not_true, hd, ha, pTru, hn, ht, hs, hb]
      cases ((nums x 0 (x.length / 3)).all fun v => decide (v < 997)) <;> simp [optT, mkF, env0, dSeq, dSet, dIfS, dRet, dRetN, dExp, dBin, dUn, dVar, dC, dCons, dNil, dApp, dMet, dCall, dCallV, b_ok, b_bad, s_ok, f_rt, f_nx, dTB, dTst, dNotT, dOrT, dAndT, dAnd, dOr, dNot, dChain, dIf, dSkip, dNever, Tg.set, e_le, e_lt, e_ge, e_gt, e_add, e_sub, List.map_cons, List.map_nil, List.length_cons, List.length_nil, List.replicate, List.cons_append, List.nil_append, List.append_nil, List.getElem?_cons_zero, List.getElem?_cons_succ, List.set_cons_zero, List.set_cons_succ, Nat.sub_self, Nat.reduceSub, Nat.reduceAdd, wipeE]
    · have ha := e_all (lst_end st (x.map fun c => PV.bl (digB c)) []) (bls_map digB x)
      have ea : (x.map digB).all id = false := by
        rw [List.all_map]
        exact Bool.eq_false_iff.mpr hx
      rw [ea] at ha
      refine ⟨[.lst (x.map fun c => .bl (digB c))], ?_⟩
      rw [told_none2 hx]
      simp only [m_cells_told, d_cells_told, mkF, env0, dSeq, dSet, dIfS, dRet, dRetN, dExp, dBin, dUn, dVar, dC, dCons, dNil, dApp, dMet, dCall, dCallV, b_ok, b_bad, s_ok, f_rt, f_nx, dTB, dTst, dNotT, dOrT, dAndT, dAnd, dOr, dNot, dChain, dIf, dSkip, dNever, Tg.set, e_le, e_lt, e_ge, e_gt, e_add, e_sub, List.map_cons, List.map_nil, List.length_cons, List.length_nil, List.replicate, List.cons_append, List.nil_append, List.append_nil, List.getElem?_cons_zero, List.getElem?_cons_succ, List.set_cons_zero, List.set_cons_succ, Nat.sub_self, Nat.reduceSub, Nat.reduceAdd, wipeE, e_len _ hz, h3, h4, e_ne0, decide_true, Bool.not_true, hd, ha, pTru, Bool.not_false, optT]
  · have h4 : ¬ ((x.length : Int) % 3 = 0) := by omega
    refine ⟨[], ?_⟩
    rw [told_none1 h]
    simp only [m_cells_told, d_cells_told, mkF, env0, dSeq, dSet, dIfS, dRet, dRetN, dExp, dBin, dUn, dVar, dC, dCons, dNil, dApp, dMet, dCall, dCallV, b_ok, b_bad, s_ok, f_rt, f_nx, dTB, dTst, dNotT, dOrT, dAndT, dAnd, dOr, dNot, dChain, dIf, dSkip, dNever, Tg.set, e_le, e_lt, e_ge, e_gt, e_add, e_sub, List.map_cons, List.map_nil, List.length_cons, List.length_nil, List.replicate, List.cons_append, List.nil_append, List.append_nil, List.getElem?_cons_zero, List.getElem?_cons_succ, List.set_cons_zero, List.set_cons_succ, Nat.sub_self, Nat.reduceSub, Nat.reduceAdd, wipeE, e_len _ hz, h3, h4, e_ne0, decide_false, Bool.not_false, optT]
theorem optT_cl (n : Nat) (o : Option (List Int)) : clV n (optT o) = true := by
  cases o with
  | none => rfl
  | some vs => exact clVs_ints n vs
theorem r_cells_told : Ref s_cells_told m_cells_told := Ref.of fun ps st hp hs => by
  unfold s_cells_told
  split
  · rename_i x
    split
    · rename_i h
      obtain ⟨g, e⟩ := cells_told_ok (okT_of h).1 st
      exact LeR.plain e (optT_cl _ _) hs
    · exact trivial
  · exact trivial

theorem all_cut {x : List Nat} {p : Nat → Bool} (h : x.all p = true) (i n : Nat) : ((x.drop i).take n).all p = true :=
  List.all_eq_true.mpr fun c hc => List.all_eq_true.mp h c (List.mem_of_mem_drop (List.mem_of_mem_take hc))
theorem okT_cut {x : List Nat} (h : okT x = true) (i n : Nat) : okT ((x.drop i).take n) = true := by
  obtain ⟨h1, h2, _⟩ := okT_of h
  unfold okT
  rw [all_cut h2, Bool.and_true]
  refine Nat.ble_eq_true_of_le ?_
  rw [List.length_take, List.length_drop]
  omega
theorem cells_told_f {x : List Nat} (h : okT x = true) (st : Sto) : f_cells_told [.str x] st = .ok (optT (told x)) st := by
  show s_cells_told _ st = _
  unfold s_cells_told
  dsimp only
  rw [if_pos h]
theorem cut_get (x : List Nat) {i n k : Nat} (h : k < n) : ((x.drop i).take n)[k]? = x[i + k]? := by
  rw [List.getElem?_take_of_lt h, List.getElem?_drop]
theorem ne_str1 (a b : Nat) (st : Sto) : pNe (.str [a]) (.str [b]) st = .ok (.bl (!decide (a = b))) st := by
  show Res.ok (PV.bl (!decide (([a] : List Nat) = [b]))) st = _
  congr 3
  simp
theorem window_at_ok {x : List Nat} {p : Nat} (h : okT x = true) (hp : p < x.length) (st : Sto) : m_window_at [.str x, .int (p : Int)] st = .ok (optT (winV x p)) st := by
  obtain ⟨h1, h2, hz⟩ := okT_of h
  have e1 : fSl (.str x) (some (p : Int)) (some ((p : Int) + 122)) st = .ok (.str ((x.drop p).take 122)) st := by
    have e := e_cut (x := x) (i := p) (j := p + 122) (by omega) (by omega) hz st
    rw [show p + 122 - p = 122 by omega] at e
    exact e
  have hw := okT_cut h p 122
  obtain ⟨w1, w2, wz⟩ := okT_of hw
  have lw : ((x.drop p).take 122).length = min 122 (x.length - p) := by
    rw [List.length_take, List.length_drop]
  have g0 : ((x.drop p).take 122)[0]? = x[p]? := cut_get x (by decide)
  have g1 : ((x.drop p).take 122)[121]? = x[p + 121]? := cut_get x (by decide)
  by_cases hl : p + 122 ≤ x.length
  · have hlw : ((x.drop p).take 122).length = 122 := by omega
    have ha : x[p]? = some x[p] := List.getElem?_eq_getElem hp
    have hb : x[p + 121]? = some x[p + 121] := List.getElem?_eq_getElem (by omega)
    generalize x[p] = a at ha
    generalize x[p + 121] = b at hb
    have ew : (((x.drop p).take 122).drop 1).take (((x.drop p).take 122).length - 2) = (x.drop (p + 1)).take 120 := by
      rw [hlw, List.drop_take, List.drop_drop, List.take_take, show min (122 - 2) (122 - 1) = 120 from rfl]
    have hc := cells_told_f (okT_cut h (p + 1) 120)
    rw [ha] at g0
    rw [hb] at g1
    have ei := e_inner (by omega) wz
    have ev : winV x p = if (a == 35 && b == 59) = true then told ((x.drop (p + 1)).take 120) else none := by
      unfold winV
      rw [ha, hb]
      rfl
    rw [ev]
    rw [ew] at ei
    clear ew
    generalize hW : (x.drop p).take 122 = w at *
    have i0 : ∀ s, pIx (.str w) (.int 0) s = .ok (.str [a]) s := fun s => e_ixS wz (by
      unfold atI ixN
      rw [if_pos (by decide), if_pos (by omega)]
      exact g0)
    have i1 : ∀ s, pIx (.str w) (.int (-1)) s = .ok (.str [b]) s := fun s => e_ixS wz (by
      unfold atI ixN
      rw [if_neg (by decide), if_pos (by omega)]
      rw [show ((-1 : Int) + (w.length : Int)).toNat = 121 by omega]
      exact g1)
    have n1 : ∀ s, pNeg (.int 1) s = .ok (.int (-1)) s := fun s => rfl
    have c122 : ¬ ((w.length : Int) < 122) := by omega
    simp only [m_window_at, d_window_at, mkF, env0, dSeq, dSet, dIfS, dRet, dRetN, dExp, dBin, dUn, dVar, dC, dCons, dNil, dApp, dMet, dCall, dCallV, b_ok, b_bad, s_ok, f_rt, f_nx, dTB, dTst, dNotT, dOrT, dAndT, dAnd, dOr, dNot, dChain, dIf, dSkip, dNever, Tg.set, e_le, e_lt, e_ge, e_gt, e_add, e_sub, List.map_cons, List.map_nil, List.length_cons, List.length_nil, List.replicate, List.cons_append, List.nil_append, List.append_nil, List.getElem?_cons_zero, List.getElem?_cons_succ, List.set_cons_zero, List.set_cons_succ, Nat.sub_self, Nat.reduceSub, Nat.reduceAdd, wipeE, dSl, dPt, e1, e_len _ wz, c122, decide_false, i0, i1, n1, ne_str1]
    by_cases ka : a = 35
    · by_cases kb : b = 59
      · subst ka kb
        simp only [decide_true, Bool.not_true, beq_self_eq_true, Bool.and_self, if_true, mkF, env0, dSeq, dSet, dIfS, dRet, dRetN, dExp, dBin, dUn, dVar, dC, dCons, dNil, dApp, dMet, dCall, dCallV, b_ok, b_bad, s_ok, f_rt, f_nx, dTB, dTst, dNotT, dOrT, dAndT, dAnd, dOr, dNot, dChain, dIf, dSkip, dNever, Tg.set, e_le, e_lt, e_ge, e_gt, e_add, e_sub, List.map_cons, List.map_nil, List.length_cons, List.length_nil, List.replicate, List.cons_append, List.nil_append, List.append_nil, List.getElem?_cons_zero, List.getElem?_cons_succ, List.set_cons_zero, List.set_cons_succ, Nat.sub_self, Nat.reduceSub, Nat.reduceAdd, wipeE, n1, dPt, dSl, ei, hc, Nat.beq]
      · have kb2 : (b == 59) = false := beq_eq_false_iff_ne.mpr kb
        simp only [ka, kb, kb2, decide_true, decide_false, Bool.not_true, Bool.not_false, Bool.and_false, Bool.false_eq_true, if_false, mkF, env0, dSeq, dSet, dIfS, dRet, dRetN, dExp, dBin, dUn, dVar, dC, dCons, dNil, dApp, dMet, dCall, dCallV, b_ok, b_bad, s_ok, f_rt, f_nx, dTB, dTst, dNotT, dOrT, dAndT, dAnd, dOr, dNot, dChain, dIf, dSkip, dNever, Tg.set, e_le, e_lt, e_ge, e_gt, e_add, e_sub, List.map_cons, List.map_nil, List.length_cons, List.length_nil, List.replicate, List.cons_append, List.nil_append, List.append_nil, List.getElem?_cons_zero, List.getElem?_cons_succ, List.set_cons_zero, List.set_cons_succ, Nat.sub_self, Nat.reduceSub, Nat.reduceAdd, wipeE, optT, n1, i1, ne_str1]
    · have ka2 : (a == 35) = false := beq_eq_false_iff_ne.mpr ka
      simp only [ka, ka2, decide_false, Bool.not_false, Bool.false_and, Bool.false_eq_true, if_false, mkF, env0, dSeq, dSet, dIfS, dRet, dRetN, dExp, dBin, dUn, dVar, dC, dCons, dNil, dApp, dMet, dCall, dCallV, b_ok, b_bad, s_ok, f_rt, f_nx, dTB, dTst, dNotT, dOrT, dAndT, dAnd, dOr, dNot, dChain, dIf, dSkip, dNever, Tg.set, e_le, e_lt, e_ge, e_gt, e_add, e_sub, List.map_cons, List.map_nil, List.length_cons, List.length_nil, List.replicate, List.cons_append, List.nil_append, List.append_nil, List.getElem?_cons_zero, List.getElem?_cons_succ, List.set_cons_zero, List.set_cons_succ, Nat.sub_self, Nat.reduceSub, Nat.reduceAdd, wipeE, optT]
  · have ev : winV x p = none := by
      unfold winV
      rw [if_neg]
      intro z
      rw [Bool.and_eq_true, beq_iff_eq, beq_iff_eq] at z
      have := (List.getElem?_eq_some_iff.mp z.2).1
      omega
    rw [ev]
    generalize (x.drop p).take 122 = w at *
    have c122 : (w.length : Int) < 122 := by omega
    simp only [m_window_at, d_window_at, mkF, env0, dSeq, dSet, dIfS, dRet, dRetN, dExp, dBin, dUn, dVar, dC, dCons, dNil, dApp, dMet, dCall, dCallV, b_ok, b_bad, s_ok, f_rt, f_nx, dTB, dTst, dNotT, dOrT, dAndT, dAnd, dOr, dNot, dChain, dIf, dSkip, dNever, Tg.set, e_le, e_lt, e_ge, e_gt, e_add, e_sub, List.map_cons, List.map_nil, List.length_cons, List.length_nil, List.replicate, List.cons_append, List.nil_append, List.append_nil, List.getElem?_cons_zero, List.getElem?_cons_succ, List.set_cons_zero, List.set_cons_succ, Nat.sub_self, Nat.reduceSub, Nat.reduceAdd, wipeE, dSl, dPt, e1, e_len _ wz, c122, decide_true, optT]
theorem r_window_at : Ref s_window_at m_window_at := Ref.of fun ps st hp hs => by
  unfold s_window_at
  split
  · rename_i x i
    split
    · rename_i h
      rw [Bool.and_eq_true, Bool.and_eq_true] at h
      have h1 := of_decide_eq_true h.1.2
      have h2 := of_decide_eq_true h.2
      have e := window_at_ok (p := i.toNat) h.1.1 (by omega) st
      rw [show ((i.toNat : Nat) : Int) = i by omega] at e
      exact LeR.plain (g := []) (by rw [e, List.append_nil]) (optT_cl _ _) hs
    · exact trivial
  · exact trivial

end K15
end
section
set_option maxRecDepth 100000
set_option maxHeartbeats 4000000
namespace K15
open PySem PySem.Spec PyProof.Rows L2 Mi
theorem ty_strP {st : Sto} {p : PV} (h : tyOf st p = some .str) : ∃ x, p = .str x := by
  cases p <;> simp only [tyOf] at h <;> try (cases h; done)
  · exact ⟨_, rfl⟩
  · split at h <;> cases h
theorem isi_str {st : Sto} {p : PV} {t : Ty} (h : tyOf st p = some t) (h2 : t ≠ .str) : fIsi .str p st = .ok (.bl false) st := by
  unfold fIsi
  rw [h]
  cases t <;> first | rfl | exact absurd rfl h2
theorem r_is_text : Ref s_is_text m_is_text := Ref.of fun ps st hp hs => by
  unfold s_is_text
  split
  · rename_i p
    split
    · rename_i ht
      obtain ⟨x, rfl⟩ := ty_strP ht
      dsimp only
      split
      · rename_i h
        exact LeR.plain (is_text_ok (Nat.le_of_ble_eq_true h) st) rfl hs
      · exact trivial
    · rename_i t ht h2
      refine LeR.plain (g := []) ?_ rfl hs
      have e := isi_str h2 ht
      simp only [m_is_text, d_is_text, mkF, env0, dSeq, dSet, dIfS, dRet, dRetN, dExp, dBin, dUn, dVar, dC, dCons, dNil, dApp, dMet, dCall, dCallV, b_ok, b_bad, s_ok, f_rt, f_nx, dTB, dTst, dNotT, dOrT, dAndT, dAnd, dOr, dNot, dChain, dIf, dSkip, dNever, Tg.set, e_le, e_lt, e_ge, e_gt, e_add, e_sub, List.map_cons, List.map_nil, List.length_cons, List.length_nil, List.replicate, List.cons_append, List.nil_append, List.append_nil, List.getElem?_cons_zero, List.getElem?_cons_succ, List.set_cons_zero, List.set_cons_succ, Nat.sub_self, Nat.reduceSub, Nat.reduceAdd, wipeE, e, pTru, Bool.not_false]
    · exact trivial
  · exact trivial
theorem is_text_f {x : List Nat} (h : x.length ≤ 60000) (st : Sto) : f_is_text [.str x] st = .ok (.bl (x.all sgB)) st := by
  show s_is_text _ st = _
  unfold s_is_text tyOf
  dsimp only
  rw [if_pos (Nat.ble_eq_true_of_le h)]
theorem winV_no {x : List Nat} {j : Nat} (h : x[j]? ≠ some 35) : winV x j = none := by
  unfold winV
  rw [if_neg]
  intro z
  rw [Bool.and_eq_true, beq_iff_eq] at z
  exact h z.1
theorem winsFrom_skip {x : List Nat} {k : Nat} : ∀ (m p : Nat), (∀ j, p ≤ j → j < p + m → x[j]? ≠ some 35) → winsFrom x p (m + k) = winsFrom x (p + m) k
  | 0, p, _ => by rw [Nat.zero_add, Nat.add_zero]
  | m + 1, p, h => by
    rw [show m + 1 + k = (m + k) + 1 by omega, winsFrom, winV_no (h p (Nat.le_refl _) (by omega))]
    dsimp only
    rw [winsFrom_skip m (p + 1) (fun j h1 h2 => h j (by omega) (by omega)), show p + 1 + m = p + (m + 1) by omega]
theorem winsFrom_none {x : List Nat} {p k : Nat} (h : ∀ j, p ≤ j → x[j]? ≠ some 35) : winsFrom x p k = [] := by
  have e := winsFrom_skip (x := x) (k := 0) k p (fun j h1 _ => h j h1)
  exact e
theorem set_self {st : Sto} {D : Nat} {o : SO} (h : st[D]? = some o) : st.set D o = st := by
  refine List.ext_getElem? fun i => ?_
  by_cases hi : D = i
  · subst hi
    rw [List.getElem?_set_self (List.getElem?_eq_some_iff.mp h).1, h]
  · rw [List.getElem?_set_ne hi]
theorem e_notN0 (st : Sto) : pNotN .non .non st = .ok (.bl false) st := rfl
theorem e_notN1 (xs : List PV) (st : Sto) : pNotN (.tup xs) .non st = .ok (.bl true) st := rfl
theorem e_tup2 (a b : PV) (st : Sto) : fTup [a, b] st = .ok (.tup [a, b]) st := rfl
theorem e_tup3 (a b c : PV) (st : Sto) : fTup [a, b, c] st = .ok (.tup [a, b, c]) st := rfl
theorem e_lst0 (st : Sto) : fLst [] st = .ok (.ref st.length) (st ++ [.lst []]) := rfl
theorem window_at_f {x : List Nat} {p : Nat} (h : okT x = true) (hp : p < x.length) (st : Sto) : f_window_at [.str x, .int (p : Int)] st = .ok (optT (winV x p)) st := by
  show s_window_at _ st = _
  unfold s_window_at
  dsimp only
  rw [h, decide_eq_true (show (0 : Int) ≤ (p : Int) by omega), decide_eq_true (show (p : Int) < (x.length : Int) by omega)]
  rfl
theorem loop_ok {x : List Nat} (h : okT x = true) {D : Nat} : ∀ (m i : Nat) (acc : List (Nat × List Int)) (st : Sto) (z : Option PV), x.length - i < m → i ≤ x.length → acc.length ≤ i → st[D]? = some (.lst (acc.map wPV)) →
    ∃ v w, dWhile bo_windows_found_0 bo_windows_found_1 m noTh [some (.str x), some (.ref D), some (.int (nextC x 35 i)), z] st = .nx [some (.str x), some (.ref D), v, w] (st.set D (.lst ((acc ++ winsFrom x i (x.length - i)).map wPV))) := by
  obtain ⟨x1, _, _⟩ := okT_of h
  intro m
  induction m with
  | zero => intro i acc st z hm; omega
  | succ m ih =>
    intro i acc st z hm hi ha hD
    cases hf : firstC 35 (x.drop i) i with
    | none =>
      have e : nextC x 35 i = -1 := by
        unfold nextC
        rw [hf]
      refine ⟨some (.int (-1)), z, ?_⟩
      rw [e, winsFrom_none (firstC_none _ i rfl hf), List.append_nil, set_self hD]
      have n0 : ¬ ((0 : Int) ≤ -1) := by decide
      unfold dWhile
      simp only [bo_windows_found_0, mkF, env0, dSeq, dSet, dIfS, dRet, dRetN, dExp, dBin, dUn, dVar, dC, dCons, dNil, dApp, dMet, dCall, dCallV, b_ok, b_bad, s_ok, f_rt, f_nx, dTB, dTst, dNotT, dOrT, dAndT, dAnd, dOr, dNot, dChain, dIf, dSkip, dNever, Tg.set, e_le, e_lt, e_ge, e_gt, e_add, e_sub, List.map_cons, List.map_nil, List.length_cons, List.length_nil, List.replicate, List.cons_append, List.nil_append, List.append_nil, List.getElem?_cons_zero, List.getElem?_cons_succ, List.set_cons_zero, List.set_cons_succ, Nat.sub_self, Nat.reduceSub, Nat.reduceAdd, wipeE, n0, decide_false]
    | some k =>
      obtain ⟨h1, h2, h3⟩ := firstC_some _ i rfl hf
      have hk : k < x.length := (List.getElem?_eq_some_iff.mp h2).1
      have e : nextC x 35 i = k := by
        unfold nextC
        rw [hf]
      have hs : winsFrom x i (x.length - i) = winsFrom x k (x.length - k) := by
        have := winsFrom_skip (x := x) (k := x.length - k) (k - i) i (fun j a b => h3 j a (by omega))
        rw [show k - i + (x.length - k) = x.length - i by omega, show i + (k - i) = k by omega] at this
        exact this
      have hc : winsFrom x k (x.length - k) = match winV x k with
        | some c => (k, c) :: winsFrom x (k + 1) (x.length - (k + 1))
        | none => winsFrom x (k + 1) (x.length - (k + 1)) := by
        rw [show x.length - k = (x.length - (k + 1)) + 1 by omega]
        rfl
      have k0 : (0 : Int) ≤ (k : Int) := by omega
      have hw := fun s => window_at_f h hk s
      have hn : ∀ s, mFind3 (.str x) [.str [35], .int ((k : Int) + 1)] s = .ok (.int (nextC x 35 (k + 1))) s := fun s => e_find3 (i := k + 1) 35 (by omega) s
      rw [e, hs, hc]
      unfold dWhile
      cases hv : winV x k with
      | none =>
        obtain ⟨v, w, r⟩ := ih (k + 1) acc st (some .non) (by omega) (by omega) (by omega) hD
        refine ⟨v, w, ?_⟩
        simp only [bo_windows_found_0, bo_windows_found_1, mkF, env0, dSeq, dSet, dIfS, dRet, dRetN, dExp, dBin, dUn, dVar, dC, dCons, dNil, dApp, dMet, dCall, dCallV, b_ok, b_bad, s_ok, f_rt, f_nx, dTB, dTst, dNotT, dOrT, dAndT, dAnd, dOr, dNot, dChain, dIf, dSkip, dNever, Tg.set, e_le, e_lt, e_ge, e_gt, e_add, e_sub, List.map_cons, List.map_nil, List.length_cons, List.length_nil, List.replicate, List.cons_append, List.nil_append, List.append_nil, List.getElem?_cons_zero, List.getElem?_cons_succ, List.set_cons_zero, List.set_cons_succ, Nat.sub_self, Nat.reduceSub, Nat.reduceAdd, wipeE, k0, decide_true, hw, hv, optT, e_notN0, isStr, if_true, hn, Nat.beq]
        exact r
      | some c =>
        have hl := List.length_set (as := st) (i := D) (a := SO.lst ((acc ++ [(k, c)]).map wPV))
        have hD2 : (st.set D (.lst ((acc ++ [(k, c)]).map wPV)))[D]? = some (.lst ((acc ++ [(k, c)]).map wPV)) := List.getElem?_set_self (List.getElem?_eq_some_iff.mp hD).1
        obtain ⟨v, w, r⟩ := ih (k + 1) (acc ++ [(k, c)]) _ (some (.tup (c.map .int))) (by omega) (by omega) (by rw [List.length_append, List.length_singleton]; omega) hD2
        refine ⟨v, w, ?_⟩
        have ap := e_append (p := wPV (k, c)) hD (by rw [List.length_map]; omega)
        have e2 : acc.map wPV ++ [wPV (k, c)] = (acc ++ [(k, c)]).map wPV := by simp
        rw [e2] at ap
        have ap2 : mAppend (.ref D) [.tup [.int (k : Int), .tup (c.map .int)]] st = .ok .non (st.set D (.lst ((acc ++ [(k, c)]).map wPV))) := ap
        simp only [bo_windows_found_0, bo_windows_found_1, mkF, env0, dSeq, dSet, dIfS, dRet, dRetN, dExp, dBin, dUn, dVar, dC, dCons, dNil, dApp, dMet, dCall, dCallV, b_ok, b_bad, s_ok, f_rt, f_nx, dTB, dTst, dNotT, dOrT, dAndT, dAnd, dOr, dNot, dChain, dIf, dSkip, dNever, Tg.set, e_le, e_lt, e_ge, e_gt, e_add, e_sub, List.map_cons, List.map_nil, List.length_cons, List.length_nil, List.replicate, List.cons_append, List.nil_append, List.append_nil, List.getElem?_cons_zero, List.getElem?_cons_succ, List.set_cons_zero, List.set_cons_succ, Nat.sub_self, Nat.reduceSub, Nat.reduceAdd, wipeE, k0, decide_true, hw, hv, optT, e_notN1, isStr, if_true, hn, Nat.beq, e_isLst (lst_of hD), e_tup2, ap2]
        refine r.trans ?_
        rw [List.set_set, List.append_assoc]
        rfl
theorem windows_found_ok {x : List Nat} (h : okT x = true) (st : Sto) : m_windows_found [.str x] st = .ok (.ref st.length) (st ++ [.lst ((wins x).map wPV)]) := by
  obtain ⟨x1, _, _⟩ := okT_of h
  obtain ⟨v, w, r⟩ := loop_ok h (D := st.length) 100000 0 [] (st ++ [.lst []]) none (by omega) (by omega) (Nat.le_refl _) (get_end st _ [])
  rw [set_end] at r
  simp only [m_windows_found, d_windows_found, dPar, mkF, env0, dSeq, dSet, dIfS, dRet, dRetN, dExp, dBin, dUn, dVar, dC, dCons, dNil, dApp, dMet, dCall, dCallV, b_ok, b_bad, s_ok, f_rt, f_nx, dTB, dTst, dNotT, dOrT, dAndT, dAnd, dOr, dNot, dChain, dIf, dSkip, dNever, Tg.set, e_le, e_lt, e_ge, e_gt, e_add, e_sub, List.map_cons, List.map_nil, List.length_cons, List.length_nil, List.replicate, List.cons_append, List.nil_append, List.append_nil, List.getElem?_cons_zero, List.getElem?_cons_succ, List.set_cons_zero, List.set_cons_succ, Nat.sub_self, Nat.reduceSub, Nat.reduceAdd, wipeE, e_lst0, isStr, if_true, e_find, r]
  rfl
theorem wPV_cl (n : Nat) (w : Nat × List Int) : clV n (wPV w) = true := by
  show (true && (clVs n (w.2.map .int) && true)) = true
  rw [clVs_ints]
  rfl
theorem wPVs_cl (n : Nat) (ws : List (Nat × List Int)) : clVs n (ws.map wPV) = true := clVs_of fun p hp => by
  obtain ⟨w, _, rfl⟩ := List.mem_map.mp hp
  exact wPV_cl n w
theorem r_windows_found : Ref s_windows_found m_windows_found := Ref.of fun ps st hp hs => by
  unfold s_windows_found
  split
  · rename_i x
    split
    · rename_i h
      exact LeR.list (g := []) (windows_found_ok h st) (wPVs_cl _ _) hs
    · exact trivial
  · exact trivial
theorem found_f {x : List Nat} (h : okT x = true) (st : Sto) : f_windows_found [.str x] st = .ok (.ref st.length) (st ++ [.lst ((wins x).map wPV)]) := by
  show s_windows_found _ st = _
  unfold s_windows_found
  dsimp only
  rw [if_pos h]
end K15
end
section
set_option maxRecDepth 100000
set_option maxHeartbeats 4000000
namespace K15
open PySem PySem.Spec PyProof.Rows L2 Mi
/-! ### what a text must be -/
theorem LeR.exc0 {st : Sto} {e : Ex} {r : Res PV} (h : r = .exc e st) (hc : clE st.length e = true) (hs : clS st.length st = true) : LeR st.length (.exc e st) r := ⟨[], by rw [List.append_nil]; exact h, hc, hs, Nat.le_refl _⟩
theorem LeR.excG {st g : Sto} {e : Ex} {r : Res PV} (h : r = .exc e (st ++ g)) (hc : clE st.length e = true) (hs : clS st.length st = true) : LeR st.length (.exc e st) r := ⟨g, h, hc, hs, Nat.le_refl _⟩
theorem reqJ_str {x : List Nat} {b : Bool} {st : Sto} (h : reqJ (.str x) st = some b) : x.length ≤ 60000 ∧ b = x.all sgB := by
  have h : (if Nat.ble x.length 60000 = true then some (x.all sgB) else none) = some b := h
  split at h
  · rename_i hl
    exact ⟨Nat.le_of_ble_eq_true hl, (Option.some.inj h).symm⟩
  · cases h
theorem reqJ_ok {x : List Nat} {st : Sto} (h : reqJ (.str x) st = some true) : okT x = true := by
  obtain ⟨h1, h2⟩ := reqJ_str h
  unfold okT
  rw [← h2, Nat.ble_eq_true_of_le h1]
  rfl
theorem reqJ_tt {x : List Nat} (h : okT x = true) (st : Sto) : reqJ (.str x) st = some true := by
  obtain ⟨h1, h2, _⟩ := okT_of h
  show (if Nat.ble x.length 60000 = true then some (x.all sgB) else none) = _
  rw [if_pos (Nat.ble_eq_true_of_le h1), h2]
theorem reqJ_true {p : PV} {st : Sto} (h : reqJ p st = some true) : ∃ x, p = .str x ∧ okT x = true := by
  have h0 := h
  unfold reqJ at h
  split at h
  · rename_i ht
    obtain ⟨x, rfl⟩ := ty_strP ht
    exact ⟨x, rfl, reqJ_ok h0⟩
  · cases h
  · cases h
theorem is_text_j {p : PV} {b : Bool} {st : Sto} (h : reqJ p st = some b) : f_is_text [p] st = .ok (.bl b) st := by
  show s_is_text [p] st = _
  unfold s_is_text
  unfold reqJ at h
  dsimp only
  split at h
  · rename_i ht
    obtain ⟨x, rfl⟩ := ty_strP ht
    dsimp only at h
    split at h
    · rename_i hl
      cases h
      show (if Nat.ble x.length 60000 = true then Res.ok (PV.bl (x.all sgB)) st else Res.bad) = _
      rw [if_pos hl]
    · cases h
  · rename_i t hne ht
    cases h
    rfl
  · cases h
theorem r_require_text : Ref s_require_text m_require_text := Ref.of fun ps st hp hs => by
  unfold s_require_text
  split
  · rename_i p
    cases e : reqJ p st with
    | none => exact trivial
    | some b =>
      have e1 := is_text_j e
      cases b with
      | true =>
        refine LeR.plain (g := []) ?_ rfl hs
        simp only [m_require_text, d_require_text, mkF, env0, dSeq, dSet, dIfS, dRet, dRetN, dExp, dBin, dUn, dVar, dC, dCons, dNil, dApp, dMet, dCall, dCallV, b_ok, b_bad, s_ok, f_rt, f_nx, dTB, dTst, dNotT, dOrT, dAndT, dAnd, dOr, dNot, dChain, dIf, dSkip, dNever, Tg.set, e_le, e_lt, e_ge, e_gt, e_add, e_sub, List.map_cons, List.map_nil, List.length_cons, List.length_nil, List.replicate, List.cons_append, List.nil_append, List.append_nil, List.getElem?_cons_zero, List.getElem?_cons_succ, List.set_cons_zero, List.set_cons_succ, Nat.sub_self, Nat.reduceSub, Nat.reduceAdd, wipeE, Nat.beq, if_true, e1, pTru, Bool.not_true]
      | false =>
        refine LeR.exc0 ?_ rfl hs
        simp only [m_require_text, d_require_text, mkF, env0, dSeq, dSet, dIfS, dRet, dRetN, dExp, dBin, dUn, dVar, dC, dCons, dNil, dApp, dMet, dCall, dCallV, b_ok, b_bad, s_ok, f_rt, f_nx, dTB, dTst, dNotT, dOrT, dAndT, dAnd, dOr, dNot, dChain, dIf, dSkip, dNever, Tg.set, e_le, e_lt, e_ge, e_gt, e_add, e_sub, List.map_cons, List.map_nil, List.length_cons, List.length_nil, List.replicate, List.cons_append, List.nil_append, List.append_nil, List.getElem?_cons_zero, List.getElem?_cons_succ, List.set_cons_zero, List.set_cons_succ, Nat.sub_self, Nat.reduceSub, Nat.reduceAdd, wipeE, dRaise0, Nat.beq, if_true, e1, pTru, Bool.not_false]
        rfl
  · exact trivial
theorem req_t {p : PV} {st : Sto} (h : reqJ p st = some true) : f_require_text [p] st = .ok .non st := by
  show s_require_text [p] st = _
  unfold s_require_text
  dsimp only
  rw [h]
theorem req_f {x : List Nat} (h : okT x = true) (st : Sto) : f_require_text [.str x] st = .ok .non st := req_t (reqJ_tt h st)
theorem req_x {p : PV} {st : Sto} (h : reqJ p st = some false) : f_require_text [p] st = .exc eText st := by
  show s_require_text [p] st = _
  unfold s_require_text
  dsimp only
  rw [h]
/-! ### a number within bounds -/
theorem is_whole_ok {p : PV} {t : Ty} {st : Sto} (h : tyOf st p = some t) : f_is_whole [p] st = .ok (.bl (decide (t = .int))) st := by
  have e1 : fIsi .int p st = .ok (.bl (isiB t .int)) st := by
    unfold fIsi
    rw [h]
  have e2 : fIsi .bool p st = .ok (.bl (isiB t .bool)) st := by
    unfold fIsi
    rw [h]
  cases t <;> simp only [f_is_whole, m_is_whole, d_is_whole, mkF, env0, dSeq, dSet, dIfS, dRet, dRetN, dExp, dBin, dUn, dVar, dC, dCons, dNil, dApp, dMet, dCall, dCallV, b_ok, b_bad, s_ok, f_rt, f_nx, dTB, dTst, dNotT, dOrT, dAndT, dAnd, dOr, dNot, dChain, dIf, dSkip, dNever, Tg.set, e_le, e_lt, e_ge, e_gt, e_add, e_sub, List.map_cons, List.map_nil, List.length_cons, List.length_nil, List.replicate, List.cons_append, List.nil_append, List.append_nil, List.getElem?_cons_zero, List.getElem?_cons_succ, List.set_cons_zero, List.set_cons_succ, Nat.sub_self, Nat.reduceSub, Nat.reduceAdd, wipeE, e1, e2, isiB] <;> rfl
end K15
end
section
set_option maxRecDepth 100000
set_option maxHeartbeats 4000000
namespace K15
open PySem PySem.Spec PyProof.Rows L2 Mi
theorem ladle_ok {w n : Nat} {st : Sto} {m : Int} {a b c : Int} (hg : st[w]? = some (.lst [.int a, .int b, .int c])) (c0 : 0 ≤ c) (cn : c ≤ n) (hn : n ≤ 100000) (hm : 0 < m) (hm2 : m ≤ 100000) :
    ∃ r a' b' c', f__law_ladle [.ref w, .int m] st = .ok (.int r) (st.set w (.lst [.int a', .int b', .int c'])) ∧ 0 ≤ r ∧ r < m ∧ 0 ≤ c' ∧ c' ≤ (n + 1 : Nat) := by
  have l0 := lst_of hg
  have hw : w < st.length := (List.getElem?_eq_some_iff.mp hg).1
  have i0 := e_ixR (i := 0) l0 rfl
  have i1 := e_ixR (i := 1) l0 rfl
  have i2 := e_ixR (i := 2) l0 rfl
  have hcd : cDiv a m = true := by
    unfold cDiv
    rw [decide_eq_true hm, Bool.true_and]
    refine decide_eq_true ?_
    have := log_small (x := m) (k := 17) (by omega)
    omega
  by_cases ha : 0 < a
  · refine ⟨a % m, a / m, b, c, ?_, Int.emod_nonneg _ (by omega), Int.emod_lt_of_pos _ hm, c0, by omega⟩
    simp only [f__law_ladle, m__law_ladle, d__law_ladle, mkF, env0, dSeq, dSet, dIfS, dRet, dRetN, dExp, dBin, dUn, dVar, dC, dCons, dNil, dApp, dMet, dCall, dCallV, b_ok, b_bad, s_ok, f_rt, f_nx, dTB, dTst, dNotT, dOrT, dAndT, dAnd, dOr, dNot, dChain, dIf, dSkip, dNever, Tg.set, e_le, e_lt, e_ge, e_gt, e_add, e_sub, List.map_cons, List.map_nil, List.length_cons, List.length_nil, List.replicate, List.cons_append, List.nil_append, List.append_nil, List.getElem?_cons_zero, List.getElem?_cons_succ, List.set_cons_zero, List.set_cons_succ, Nat.sub_self, Nat.reduceSub, Nat.reduceAdd, wipeE, i0, ha, decide_true, e_intX, e_mod _ hm, dSub, e_fdiv _ hcd]
    rw [e_setL hg rfl]
    rfl
  · have hc2 : ((c + 1 : Int)).natAbs ≤ 2 ^ 20 := by omega
    have g2 : (st.set w (.lst [.int a, .int b, .int (c + 1)]))[w]? = some (.lst [.int a, .int b, .int (c + 1)]) := List.getElem?_set_self hw
    have j1 := e_ixR (i := 1) (lst_of g2) rfl
    have j2 := e_ixR (i := 2) (lst_of g2) rfl
    have m1 := e_mul (st.set w (.lst [.int a, .int b, .int (c + 1)])) (cMul_small (x := 49979693) (y := c + 1) (k := 26) (l := 20) (by decide) hc2 (by decide))
    have hM : (0 : Int) < 2305843009213693951 := by decide
    have o1 := Int.emod_nonneg (b + 49979693 * (c + 1)) (show (2305843009213693951 : Int) ≠ 0 by decide)
    have o2 := Int.emod_lt_of_pos (b + 49979693 * (c + 1)) hM
    generalize ho : (b + 49979693 * (c + 1)) % 2305843009213693951 = one at o1 o2
    have m2 := e_mul (st.set w (.lst [.int a, .int b, .int (c + 1)])) (cMul_small (x := one) (y := one) (k := 61) (l := 61) (by omega) (by omega) (by decide))
    have m5 := e_mul (st.set w (.lst [.int a, .int b, .int (c + 1)])) (cMul_small (x := 107) (y := c + 1) (k := 8) (l := 20) (by decide) hc2 (by decide))
    have hN : (0 : Int) < 2305843009213693921 := by decide
    have q1 := Int.emod_nonneg (one * one + 107 * (c + 1)) (show (2305843009213693921 : Int) ≠ 0 by decide)
    have q2 := Int.emod_lt_of_pos (one * one + 107 * (c + 1)) hN
    have m3 := e_mul (st.set w (.lst [.int a, .int b, .int (c + 1)])) (cMul_small (x := (one * one + 107 * (c + 1)) % 2305843009213693921) (y := 32452843) (k := 61) (l := 25) (by omega) (by decide) (by decide))
    have fd : ∀ (x : Int) (s : Sto), pFdiv (.int x) (.int 65543) s = .ok (.int (x / 65543)) s := fun x s => e_fdiv s rfl
    refine ⟨((one * one + 107 * (c + 1)) % 2305843009213693921 * 32452843 + one) / 65543 % m, a, b, c + 1, ?_, Int.emod_nonneg _ (by omega), Int.emod_lt_of_pos _ hm, by omega, by omega⟩
    simp only [f__law_ladle, m__law_ladle, d__law_ladle, mkF, env0, dSeq, dSet, dIfS, dRet, dRetN, dExp, dBin, dUn, dVar, dC, dCons, dNil, dApp, dMet, dCall, dCallV, b_ok, b_bad, s_ok, f_rt, f_nx, dTB, dTst, dNotT, dOrT, dAndT, dAnd, dOr, dNot, dChain, dIf, dSkip, dNever, Tg.set, e_le, e_lt, e_ge, e_gt, e_add, e_sub, List.map_cons, List.map_nil, List.length_cons, List.length_nil, List.replicate, List.cons_append, List.nil_append, List.append_nil, List.getElem?_cons_zero, List.getElem?_cons_succ, List.set_cons_zero, List.set_cons_succ, Nat.sub_self, Nat.reduceSub, Nat.reduceAdd, wipeE, i0, i2, ha, decide_false, e_intX, dSub]
    rw [e_setL (m := 2) hg rfl]
    simp only [List.set_cons_succ, List.set_cons_zero, mkF, env0, dSeq, dSet, dIfS, dRet, dRetN, dExp, dBin, dUn, dVar, dC, dCons, dNil, dApp, dMet, dCall, dCallV, b_ok, b_bad, s_ok, f_rt, f_nx, dTB, dTst, dNotT, dOrT, dAndT, dAnd, dOr, dNot, dChain, dIf, dSkip, dNever, Tg.set, e_le, e_lt, e_ge, e_gt, e_add, e_sub, List.map_cons, List.map_nil, List.length_cons, List.length_nil, List.replicate, List.cons_append, List.nil_append, List.append_nil, List.getElem?_cons_zero, List.getElem?_cons_succ, List.set_cons_zero, List.set_cons_succ, Nat.sub_self, Nat.reduceSub, Nat.reduceAdd, wipeE, j1, j2, m1, m5, e_intX, e_mod _ hM, e_mod _ hN, ho, m2, m3, fd, e_mod _ hm]
theorem spoon_ok {w n k : Nat} {st : Sto} {ys : List PV} {a b c : Int} (hg : st[w]? = some (.lst [.int a, .int b, .int c])) (c0 : 0 ≤ c) (cn : c ≤ n) (hn : n ≤ 100000) (hk : st[k]? = some (.lst ys)) (hkw : k ≠ w) (h0 : ys ≠ []) (hl : ys.length ≤ 1000) :
    ∃ r a' b' c', r < ys.length ∧ f__law_spoon [.ref w, .ref k] st = .ok (ys.getD r .non) (st.set w (.lst [.int a', .int b', .int c'])) ∧ 0 ≤ c' ∧ c' ≤ (n + 1 : Nat) := by
  have hp : 0 < ys.length := List.length_pos_iff.mpr h0
  obtain ⟨r, a', b', c', e, r0, r1, h1, h2⟩ := ladle_ok (m := ys.length) hg c0 cn hn (by omega) (by omega)
  have hk' : (st.set w (.lst [.int a', .int b', .int c']))[k]? = some (.lst ys) := by rw [List.getElem?_set_ne (Ne.symm hkw)]; exact hk
  have hr : r.toNat < ys.length := by omega
  refine ⟨r.toNat, a', b', c', hr, ?_, h1, h2⟩
  have hat : atI ys r = some (ys.getD r.toNat .non) := by
    unfold atI ixN
    rw [if_pos r0, if_pos r1]
    show ys[r.toNat]? = _
    rw [List.getD_eq_getElem?_getD, List.getElem?_eq_getElem hr]
    rfl
  simp only [f__law_spoon, m__law_spoon, d__law_spoon, mkF, env0, dSeq, dSet, dIfS, dRet, dRetN, dExp, dBin, dUn, dVar, dC, dCons, dNil, dApp, dMet, dCall, dCallV, b_ok, b_bad, s_ok, f_rt, f_nx, dTB, dTst, dNotT, dOrT, dAndT, dAnd, dOr, dNot, dChain, dIf, dSkip, dNever, Tg.set, e_le, e_lt, e_ge, e_gt, e_add, e_sub, List.map_cons, List.map_nil, List.length_cons, List.length_nil, List.replicate, List.cons_append, List.nil_append, List.append_nil, List.getElem?_cons_zero, List.getElem?_cons_succ, List.set_cons_zero, List.set_cons_succ, Nat.sub_self, Nat.reduceSub, Nat.reduceAdd, wipeE, Nat.beq, if_true, e_lenR (lst_of hk), e]
  rw [e_ixR (lst_of hk') hat]
  rfl
theorem dSet_ok {i : Nat} {M : DE} {env : Mi.Env} {st : Sto} (h : isNx (dSet (.nm i) M noTh env st) = true) : ∃ v st1, M noTh env st = .ok v st1 ∧ dSet (.nm i) M noTh env st = .nx (env.set i (some v)) st1 := by
  unfold dSet at h ⊢
  cases e : M noTh env st with
  | ok v st1 => exact ⟨v, st1, rfl, rfl⟩
  | exc x s => rw [e] at h; cases h
  | bad => rw [e] at h; cases h
/-- name i = spoon(churn, a menu written in place) -/
theorem draw {i k n N : Nat} {M : DE} {env : Mi.Env} {st : Sto} {a b c : Int} (hR : isNx (dSet (.nm i) M noTh env st) = true) (h0 : env[0]? = some (some (.ref 1))) (hk : (RS.env (dSet (.nm i) M noTh env st))[i]? = some (some (.ref k)))
    (hg : (RS.sto (dSet (.nm i) M noTh env st))[1]? = some (.lst [.int a, .int b, .int c])) (hm : (RS.sto (dSet (.nm i) M noTh env st))[k]? = some (.lst (menuAt (dSet (.nm i) M noTh env st) i))) (hl : (menuAt (dSet (.nm i) M noTh env st) i).length = N + 1) (hN : N ≤ 900) (hk1 : Nat.beq k 1 = false) (c0 : 0 ≤ c) (cn : c ≤ n) (hn : n ≤ 100000) :
    ∃ r a' b' c', r < N + 1 ∧ dSet (.nm i) (dCall 2 f__law_spoon (dCons (dVar 0) (dCons M dNil))) noTh env st = .nx ((RS.env (dSet (.nm i) M noTh env st)).set i (some ((menuAt (dSet (.nm i) M noTh env st) i).getD r .non))) ((RS.sto (dSet (.nm i) M noTh env st)).set 1 (.lst [.int a', .int b', .int c'])) ∧ 0 ≤ c' ∧ c' ≤ (n + 1 : Nat) := by
  obtain ⟨v, st1, e1, e2⟩ := dSet_ok hR
  have hne : k ≠ 1 := fun z => by rw [z] at hk1; cases hk1
  generalize menuAt (dSet (.nm i) M noTh env st) i = ys at hm hl ⊢
  rw [e2] at hk hg hm ⊢
  dsimp only [RS.env, RS.sto] at hk hg hm ⊢
  have hv : v = .ref k := by
    rw [List.getElem?_set] at hk
    split at hk
    · split at hk
      · exact Option.some.inj (Option.some.inj hk)
      · cases hk
    · omega
  subst hv
  obtain ⟨r, a', b', c', hr, e, h1, h2⟩ := spoon_ok (w := 1) hg c0 cn hn hm hne (by intro z; rw [z] at hl; cases hl) (by omega)
  refine ⟨r, a', b', c', by omega, ?_, h1, h2⟩
  have d0 : dVar 0 noTh env st = .ok (.ref 1) st := by
    unfold dVar
    rw [h0]
  have ec : dCons (dVar 0) (dCons M dNil) noTh env st = .ok [.ref 1, .ref k] st1 := by
    unfold dCons
    rw [d0]
    show Res.bind (Res.bind (M noTh env st) _) _ = _
    rw [e1]
    rfl
  rw [List.set_set]
  unfold dSet dCall
  rw [ec]
  show Res.s env (f__law_spoon [.ref 1, .ref k] st1) _ = _
  rw [e]
  rfl
end K15
end
section
set_option maxRecDepth 100000
set_option maxHeartbeats 4000000
namespace K15
open PySem PySem.Spec PyProof.Rows L2 Mi
theorem churn_ok {ns : List Int} {i : Nat} (hi : i < 4) (hn : ns.length ≤ 63) : ∃ a b : Int, f__law_churn [.ref 0, .int i] [.fz (ns.map .int)] = .ok (.ref 1) [.fz (ns.map .int), .lst [.int a, .int b, .int 0]] := by
  have l0 : lstAt [SO.fz (ns.map PV.int)] 0 = some (ns.map .int) := rfl
  have p1 : ∀ s, pPow (.int 10) (.int 54) s = .ok (.int (10 ^ 54)) s := fun s => by kernel_rfl
  have p2 : ∀ s, pPow (.int 10) (.int 58) s = .ok (.int (10 ^ 58)) s := fun s => by kernel_rfl
  have p3 : ∀ s, pMul (.int (10 ^ 54)) (.int (10 ^ 58)) s = .ok (.int (10 ^ 112)) s := fun s => by kernel_rfl
  have p4 : ∀ s, pPow (.int 10) (.int 16) s = .ok (.int (10 ^ 16)) s := fun s => by kernel_rfl
  have hM : (0 : Int) < 10 ^ 112 := by decide +kernel
  have m7 : ∀ s, pMul (.int 1213) (.int i) s = .ok (.int (1213 * i)) s := fun s => e_mul s (cMul_small (x := 1213) (y := i) (k := 13) (l := 3) (by decide) (by omega) (by decide))
  have m8 : ∀ s, pMul (.int 223) (.int i) s = .ok (.int (223 * i)) s := fun s => e_mul s (cMul_small (x := 223) (y := i) (k := 13) (l := 3) (by decide) (by omega) (by decide))
  have m5 : ∀ (b : Bool) s, pMul (.int 43) (.int (if b then 1 else 0)) s = .ok (.int (43 * (if b then 1 else 0))) s := fun b s => e_mul s (by cases b <;> rfl)
  have f3 : ∀ (p q r : PV) (s : Sto), fLst [p, q, r] s = .ok (.ref s.length) (s ++ [.lst [p, q, r]]) := fun p q r s => rfl
  have key : ∀ (v : Int) (s : Sto), ∃ a b : Int, t_d__law_churn_1 noTh [some (.ref 0), some (.int i), some (.int v), none, none] s = .rt (.ref s.length) (s ++ [.lst [.int a, .int b, .int 0]]) := by
    intro v s
    generalize hg : (if v < 0 then -v else v) % 10 ^ 112 = g
    have q1 := Int.emod_nonneg g (show (2305843009213693907 : Int) ≠ 0 by decide)
    have q2 := Int.emod_lt_of_pos g (show (0 : Int) < 2305843009213693907 by decide)
    have m6 : ∀ s, pMul (.int (g % 2305843009213693907)) (.int 79) s = .ok (.int (g % 2305843009213693907 * 79)) s := fun s => e_mul s (cMul_small (x := g % 2305843009213693907) (y := 79) (k := 61) (l := 16) (by omega) (by decide) (by decide))
    refine ⟨if g - 10 ^ 16 > 0 then g - 10 ^ 16 else 0, (g % 2305843009213693907 * 79 + 1213 * i + 43 * (if decide (v < 0) then 1 else 0) + 37) % 1152921504606846883, ?_⟩
    simp only [t_d__law_churn_1, t_d__law_churn_2, q_d__law_churn_1, q_d__law_churn_2, t_d__law_churn_3, mkF, env0, dSeq, dSet, dIfS, dRet, dRetN, dExp, dBin, dUn, dVar, dC, dCons, dNil, dApp, dMet, dCall, dCallV, b_ok, b_bad, s_ok, f_rt, f_nx, dTB, dTst, dNotT, dOrT, dAndT, dAnd, dOr, dNot, dChain, dIf, dSkip, dNever, Tg.set, e_le, e_lt, e_ge, e_gt, e_add, e_sub, List.map_cons, List.map_nil, List.length_cons, List.length_nil, List.replicate, List.cons_append, List.nil_append, List.append_nil, List.getElem?_cons_zero, List.getElem?_cons_succ, List.set_cons_zero, List.set_cons_succ, Nat.sub_self, Nat.reduceSub, Nat.reduceAdd, wipeE, e_abs, e_intX, p1, p2, p3, p4, e_mod _ hM, hg, e_mod _ (show (0 : Int) < 2305843009213693907 by decide), e_mod _ (show (0 : Int) < 1152921504606846883 by decide), m6, m7, e_intXb, m5, e_max2, f3]
  have le := e_lenR l0
  rw [List.length_map] at le
  have fin : ∀ (v : Int), q_d__law_churn_0 noTh [some (.ref 0), some (.int i), none, none, none] [.fz (ns.map .int)] = .nx [some (.ref 0), some (.int i), some (.int v), none, none] [.fz (ns.map .int)] →
      ∃ a b : Int, f__law_churn [.ref 0, .int i] [.fz (ns.map .int)] = .ok (.ref 1) [.fz (ns.map .int), .lst [.int a, .int b, .int 0]] := by
    intro v h
    obtain ⟨a, b, e⟩ := key v [.fz (ns.map .int)]
    refine ⟨a, b, ?_⟩
    show mkF 5 d__law_churn _ _ = _
    rw [t_d__law_churn]
    exact mk_seq h e
  by_cases hl : (i : Int) < ns.length
  · have hn : i < ns.length := by omega
    have ix := e_ixR (i := (i : Int)) (v := .int ns[i]) l0 (by
      unfold atI ixN
      rw [List.length_map, if_pos (by omega), if_pos (by omega)]
      show (ns.map PV.int)[i]? = _
      rw [List.getElem?_map, List.getElem?_eq_getElem hn]
      rfl)
    refine fin ns[i] ?_
    simp only [q_d__law_churn_0, mkF, env0, dSeq, dSet, dIfS, dRet, dRetN, dExp, dBin, dUn, dVar, dC, dCons, dNil, dApp, dMet, dCall, dCallV, b_ok, b_bad, s_ok, f_rt, f_nx, dTB, dTst, dNotT, dOrT, dAndT, dAnd, dOr, dNot, dChain, dIf, dSkip, dNever, Tg.set, e_le, e_lt, e_ge, e_gt, e_add, e_sub, List.map_cons, List.map_nil, List.length_cons, List.length_nil, List.replicate, List.cons_append, List.nil_append, List.append_nil, List.getElem?_cons_zero, List.getElem?_cons_succ, List.set_cons_zero, List.set_cons_succ, Nat.sub_self, Nat.reduceSub, Nat.reduceAdd, wipeE, le, hl, decide_true, ix, e_intX]
  · refine fin (223 * i + 101) ?_
    simp only [q_d__law_churn_0, mkF, env0, dSeq, dSet, dIfS, dRet, dRetN, dExp, dBin, dUn, dVar, dC, dCons, dNil, dApp, dMet, dCall, dCallV, b_ok, b_bad, s_ok, f_rt, f_nx, dTB, dTst, dNotT, dOrT, dAndT, dAnd, dOr, dNot, dChain, dIf, dSkip, dNever, Tg.set, e_le, e_lt, e_ge, e_gt, e_add, e_sub, List.map_cons, List.map_nil, List.length_cons, List.length_nil, List.replicate, List.cons_append, List.nil_append, List.append_nil, List.getElem?_cons_zero, List.getElem?_cons_succ, List.set_cons_zero, List.set_cons_succ, Nat.sub_self, Nat.reduceSub, Nat.reduceAdd, wipeE, le, hl, decide_false, m8]
end K15
end
section
set_option maxRecDepth 100000
set_option maxHeartbeats 4000000
noncomputable section
namespace K15
open PySem PySem.Spec PyProof.Rows L2 Mi
/-- "number " and the repr -/
def numS (w : PV) : PV := match fRepr [w] [] with
  | .ok (.str s) _ => .str ([110, 117, 109, 98, 101, 114, 32] ++ s)
  | _ => .non
def body : PV := .str [98, 111, 100, 121]
def oper : PV := .str [111, 112, 101, 114, 97, 116, 105, 111, 110]
def fine : PV := .str [102, 105, 110, 101]
def end2 : RS → Option (SO × SO)
  | .rt (.bl true) (o :: p :: _) => some (o, p)
  | _ => none
theorem end2_ok {r : RS} {o p : SO} (h : end2 r = some (o, p)) : ∃ s, r = .rt (.bl true) (o :: p :: s) := by
  unfold end2 at h
  split at h
  · cases h
    exact ⟨_, rfl⟩
  · cases h
/-- two runs that are alike on a range -/
theorem map_eq2 {α : Type} {f g : Nat → α} {n : Nat} (h : (List.range n).map f = (List.range n).map g) {i : Nat} (hi : i < n) : f i = g i := by
  have e := congrArg (fun l => l[i]?) h
  simp only [List.getElem?_map, List.getElem?_range hi, Option.map_some] at e
  exact Option.some.inj e
def W (S : Sto) (a b c : Int) : Sto := S.set 1 (.lst [.int a, .int b, .int c])
theorem spoonE {k n N : Nat} {M : DE} {env : Mi.Env} {S S' : Sto} {ys : List PV} {a b c : Int} (h0 : env[0]? = some (some (.ref 1))) (hM : M noTh env (W S a b c) = .ok (.ref k) (W S' a b c)) (hk : S'[k]? = some (.lst ys)) (h1 : Nat.ble 2 S'.length = true) (hl : ys.length = N + 1) (hN : N ≤ 900) (hk1 : Nat.beq k 1 = false) (c0 : 0 ≤ c) (cn : c ≤ n) (hn : n ≤ 100000) :
    ∃ r a' b' c', r < N + 1 ∧ dCall 2 f__law_spoon (dCons (dVar 0) (dCons M dNil)) noTh env (W S a b c) = .ok (ys.getD r .non) (W S' a' b' c') ∧ 0 ≤ c' ∧ c' ≤ (n + 1 : Nat) := by
  have hne : k ≠ 1 := fun z => by rw [z] at hk1; cases hk1
  have hg : (W S' a b c)[1]? = some (.lst [.int a, .int b, .int c]) := List.getElem?_set_self (Nat.le_of_ble_eq_true h1)
  have hm : (W S' a b c)[k]? = some (.lst ys) := by
    unfold W
    rw [List.getElem?_set_ne (fun z => hne z.symm)]
    exact hk
  obtain ⟨r, a', b', c', hr, e, z1, z2⟩ := spoon_ok (w := 1) hg c0 cn hn hm hne (by intro z; rw [z] at hl; cases hl) (by omega)
  refine ⟨r, a', b', c', by omega, ?_, z1, z2⟩
  have d0 : dVar 0 noTh env (W S a b c) = .ok (.ref 1) (W S a b c) := by
    unfold dVar
    rw [h0]
  have ec : dCons (dVar 0) (dCons M dNil) noTh env (W S a b c) = .ok [.ref 1, .ref k] (W S' a b c) := by
    unfold dCons
    rw [d0]
    show Res.bind (Res.bind (M noTh env (W S a b c)) _) _ = _
    rw [hM]
    rfl
  unfold dCall
  rw [ec]
  show f__law_spoon [.ref 1, .ref k] (W S' a b c) = _
  rw [e]
  unfold W
  rw [List.set_set]
def stoR : Res PV → Sto
  | .ok _ s => s
  | _ => []
def refR : Res PV → Nat
  | .ok (.ref k) _ => k
  | _ => 0
def lstS (S : Sto) (k : Nat) : List PV := (lstAt S k).getD []
def P0 : DE := (dApp fLst (dCons (dC .non) (dCons (dC (.int 0)) (dCons (dBin pMul (dApp fLst (dCons (dC (.int 0)) (dNil))) (dC (.int 20))) (dCons (dBin pMul (dApp fTup (dCons (dC (.int 0)) (dNil))) (dC (.int 19))) (dCons (dBin pMul (dApp fTup (dCons (dC (.int 0)) (dNil))) (dC (.int 21))) (dCons (dBin pMul (dApp fTup (dCons (dC (.int 997)) (dNil))) (dC (.int 20))) (dCons (dBin pMul (dApp fTup (dCons (dUn pNeg (dC (.int 1))) (dNil))) (dC (.int 20))) (dCons (dBin pMul (dApp fTup (dCons (dC (.bl true)) (dNil))) (dC (.int 20))) (dCons (dBin pMul (dApp fTup (dCons (dC (.str [49])) (dNil))) (dC (.int 20))) (dCons (dDict0) (dNil))))))))))))
def P1 : DE := (dApp fLst (dCons (dC .non) (dCons (dC (.int 0)) (dCons (dApp fLst (dCons (dC (.int 1)) (dNil))) (dCons (dApp fTup (dCons (dC (.int 1)) (dCons (dC (.int 1)) (dNil)))) (dCons (dApp fTup (dCons (dC (.int 2)) (dCons (dC (.int 1)) (dNil)))) (dCons (dApp fTup (dCons (dC (.int 40)) (dNil))) (dCons (dApp fTup (dCons (dUn pNeg (dC (.int 1))) (dNil))) (dCons (dApp fTup (dCons (dC (.bl true)) (dNil))) (dCons (dApp fTup (dCons (dC (.str [49])) (dNil))) (dCons (dDict0) (dCons (dApp fTup (dCons (dBin pPow (dC (.int 10)) (dC (.int 60))) (dNil))) (dNil)))))))))))))
def P2 : DE := (dApp fLst (dCons (dC .non) (dCons (dUn pNeg (dC (.int 1))) (dCons (dC (.int 123)) (dCons (dC (.bl true)) (dCons (dC (.str [49])) (dCons (dApp fTup (dCons (dC (.int 1)) (dNil))) (dCons (dBin pPow (dC (.int 10)) (dC (.int 60))) (dNil)))))))))
def env1 : Mi.Env := env0 7 [.ref 1]
def ones : PV := .tup (List.replicate 20 (.int 1))
section
variable (xs : List PV) (a b c : Int) (v1 v2 v3 : PV) (o : Option PV) (s1 : List Nat)
def B (xs : List PV) : Sto := [.fz xs, .lst [.int 0, .int 0, .int 0]]
def B0 : Sto := stoR (P0 noTh env1 (B xs))
def B1 : Sto := stoR (P1 noTh env1 (B0 xs))
def B2 : Sto := stoR (P2 noTh env1 (B1 xs))
def k0 : Nat := refR (P0 noTh env1 (B xs))
def k1 : Nat := refR (P1 noTh env1 (B0 xs))
def k2 : Nat := refR (P2 noTh env1 (B1 xs))
theorem p0_ok : P0 noTh env1 (W (B xs) a b c) = .ok (.ref (k0 xs)) (W (B0 xs) a b c) := by kernel_rfl
theorem p1_ok : P1 noTh (env1.set 1 (some v1)) (W (B0 xs) a b c) = .ok (.ref (k1 xs)) (W (B1 xs) a b c) := by kernel_rfl
theorem p2_ok : P2 noTh ((env1.set 1 (some v1)).set 2 (some v2)) (W (B1 xs) a b c) = .ok (.ref (k2 xs)) (W (B2 xs) a b c) := by kernel_rfl
theorem m0_ok : (B0 xs)[k0 xs]? = some (.lst (lstS (B0 xs) (k0 xs))) := by kernel_rfl
theorem m1_ok : (B1 xs)[k1 xs]? = some (.lst (lstS (B1 xs) (k1 xs))) := by kernel_rfl
theorem m2_ok : (B2 xs)[k2 xs]? = some (.lst (lstS (B2 xs) (k2 xs))) := by kernel_rfl
theorem l0_ok : (lstS (B0 xs) (k0 xs)).length = 9 + 1 := by kernel_rfl
theorem l1_ok : (lstS (B1 xs) (k1 xs)).length = 10 + 1 := by kernel_rfl
theorem l2_ok : (lstS (B2 xs) (k2 xs)).length = 6 + 1 := by kernel_rfl
theorem z0_ok : Nat.ble 2 (B0 xs).length = true := by kernel_rfl
theorem z1_ok : Nat.ble 2 (B1 xs).length = true := by kernel_rfl
theorem z2_ok : Nat.ble 2 (B2 xs).length = true := by kernel_rfl
theorem y0_ok : Nat.beq (k0 xs) 1 = false := by kernel_rfl
theorem y1_ok : Nat.beq (k1 xs) 1 = false := by kernel_rfl
theorem y2_ok : Nat.beq (k2 xs) 1 = false := by kernel_rfl
def g0 (i : Nat) : PV := (lstS (B0 xs) (k0 xs)).getD i .non
def g1 (i : Nat) : PV := (lstS (B1 xs) (k1 xs)).getD i .non
def g2 (i : Nat) : PV := (lstS (B2 xs) (k2 xs)).getD i .non
def T (ts : List PV) : Sto := W (B2 xs ++ [.lst ts]) a b c
def EV (o : Option PV) : Mi.Env := [some (.ref 1), some v1, some v2, some v3, some ones, some (.ref (B2 xs).length), o]
def bs (n : Nat) : List PV := List.replicate n body
theorem q34_ok : dSeq q_d__law_bodies_right_3 q_d__law_bodies_right_4 noTh [some (.ref 1), some v1, some v2, some v3, none, none, none] (W (B2 xs) a b c) = .nx (EV xs v1 v2 v3 none) (T xs a b c []) := by kernel_rfl
theorem q5_ok : ((List.range 10).map fun i => q_d__law_bodies_right_5 noTh (EV xs (g0 xs i) v2 v3 none) (T xs a b c [])) = (List.range 10).map fun i => .nx (EV xs (g0 xs i) v2 v3 (some (.fn 2))) (T xs a b c (bs 2)) := by kernel_rfl
theorem q6_ok : ((List.range 10).map fun i => q_d__law_bodies_right_6 noTh (EV xs (g0 xs i) v2 v3 (some (.fn 2))) (T xs a b c (bs 2))) = (List.range 10).map fun i => .nx (EV xs (g0 xs i) v2 v3 (some (.fn 0))) (T xs a b c (bs 4)) := by kernel_rfl
theorem q7_ok : ((List.range 10).map fun i => q_d__law_bodies_right_7 noTh (EV xs (g0 xs i) v2 v3 (some (.fn 0))) (T xs a b c (bs 4))) = (List.range 10).map fun i => .nx (EV xs (g0 xs i) v2 v3 (some (.fn 0))) (T xs a b c (bs 5)) := by kernel_rfl
theorem q8_ok : ((List.range 10).map fun i => q_d__law_bodies_right_8 noTh (EV xs (g0 xs i) v2 v3 (some (.fn 0))) (T xs a b c (bs 5))) = (List.range 10).map fun i => .nx (EV xs (g0 xs i) v2 v3 (some (.fn 0))) (T xs a b c (bs 6)) := by kernel_rfl
theorem q9_ok : ((List.range 10).map fun i => q_d__law_bodies_right_9 noTh (EV xs (g0 xs i) v2 v3 (some (.fn 0))) (T xs a b c (bs 6))) = (List.range 10).map fun i => .nx (EV xs (g0 xs i) v2 v3 (some (.fn 0))) (T xs a b c (bs 7)) := by kernel_rfl
theorem q10_ok : ((List.range 10).map fun i => q_d__law_bodies_right_10 noTh (EV xs (g0 xs i) v2 v3 (some (.fn 0))) (T xs a b c (bs 7))) = (List.range 10).map fun i => .nx (EV xs (g0 xs i) v2 v3 (some (.fn 0))) (T xs a b c (bs 8)) := by kernel_rfl
theorem q11_ok : ((List.range 11).map fun i => q_d__law_bodies_right_11 noTh (EV xs v1 (g1 xs i) v3 (some (.fn 0))) (T xs a b c (bs 8))) = (List.range 11).map fun i => .nx (EV xs v1 (g1 xs i) v3 (some (.fn 0))) (T xs a b c (bs 8 ++ [oper])) := by kernel_rfl
theorem q12_ok : ((List.range 11).map fun i => q_d__law_bodies_right_12 noTh (EV xs v1 (g1 xs i) v3 (some (.fn 0))) (T xs a b c (bs 8 ++ [oper]))) = (List.range 11).map fun i => .nx (EV xs v1 (g1 xs i) v3 (some (.fn 0))) (T xs a b c (bs 8 ++ [oper, oper])) := by kernel_rfl
theorem q13_ok : q_d__law_bodies_right_13 noTh (EV xs v1 v2 v3 (some (.fn 0))) (T xs a b c (bs 8 ++ [oper, oper])) = .nx (EV xs v1 v2 v3 (some (.fn 0))) (T xs a b c (bs 8 ++ [oper, oper, oper])) := by kernel_rfl
theorem q14_ok : q_d__law_bodies_right_14 noTh (EV xs v1 v2 v3 (some (.fn 0))) (T xs a b c (bs 8 ++ [oper, oper, oper])) = .nx (EV xs v1 v2 v3 (some (.fn 0))) (T xs a b c (bs 8 ++ [oper, oper, oper, oper])) := by kernel_rfl
theorem q15_ok : ((List.range 7).map fun i => q_d__law_bodies_right_15 noTh (EV xs v1 v2 (g2 xs i) (some (.fn 0))) (T xs a b c (bs 8 ++ [oper, oper, oper, oper]))) = (List.range 7).map fun i => .nx (EV xs v1 v2 (g2 xs i) (some (.fn 0))) (T xs a b c (bs 8 ++ [oper, oper, oper, oper, numS (g2 xs i)])) := by kernel_rfl
theorem q16_ok : q_d__law_bodies_right_16 noTh (EV xs v1 v2 v3 (some (.fn 0))) (T xs a b c (bs 8 ++ [oper, oper, oper, oper, .str s1])) = .nx (EV xs v1 v2 v3 (some (.fn 0))) (T xs a b c (bs 8 ++ [oper, oper, oper, oper, .str s1, fine])) := by kernel_rfl
theorem t17_ok : ((List.range 7).map fun i => end2 (t_d__law_bodies_right_17 noTh (EV xs v1 v2 (g2 xs i) (some (.fn 0))) (T xs a b c (bs 8 ++ [oper, oper, oper, oper, numS (g2 xs i), fine])))) = (List.range 7).map fun i => some (.fz xs, .lst [.int a, .int b, .int c]) := by kernel_rfl
theorem num_str : ((List.range 7).map fun j => match numS (g2 xs j) with | .str _ => true | _ => false) = (List.range 7).map fun _ => true := by kernel_rfl
end
end K15
end
end
section
set_option maxRecDepth 100000
set_option maxHeartbeats 4000000
namespace K15
open PySem PySem.Spec PyProof.Rows L2 Mi
theorem set_nx {i : Nat} {D : DE} {env : Mi.Env} {s s' : Sto} {v : PV} (h : D noTh env s = .ok v s') : dSet (.nm i) D noTh env s = .nx (env.set i (some v)) s' := by
  unfold dSet
  rw [h]
  rfl
theorem bodies_ok {xs : List PV} {a b c : Int} {n : Nat} (c0 : 0 ≤ c) (cn : c ≤ n) (hn : n ≤ 90000) : ∃ a' b' c' : Int, f__law_bodies_right [.ref 1] [.fz xs, .lst [.int a, .int b, .int c]] = .ok (.bl true) [.fz xs, .lst [.int a', .int b', .int c']] ∧ 0 ≤ c' ∧ c' ≤ (n + 3 : Nat) := by
  obtain ⟨i1, a1, b1, c1, h1, e1, d1, n1⟩ := spoonE (n := n) rfl (p0_ok xs a b c) (m0_ok xs) (z0_ok xs) (l0_ok xs) (by decide) (y0_ok xs) c0 cn (by omega)
  obtain ⟨i2, a2, b2, c2, h2, e2, d2, n2⟩ := spoonE (n := n + 1) (env := env1.set 1 (some (g0 xs i1))) rfl (p1_ok xs a1 b1 c1 (g0 xs i1)) (m1_ok xs) (z1_ok xs) (l1_ok xs) (by decide) (y1_ok xs) d1 n1 (by omega)
  obtain ⟨i3, a3, b3, c3, h3, e3, d3, n3⟩ := spoonE (n := n + 2) (env := (env1.set 1 (some (g0 xs i1))).set 2 (some (g1 xs i2))) rfl (p2_ok xs a2 b2 c2 (g0 xs i1) (g1 xs i2)) (m2_ok xs) (z2_ok xs) (l2_ok xs) (by decide) (y2_ok xs) d2 n2 (by omega)
  have f0 : q_d__law_bodies_right_0 noTh env1 (W (B xs) a b c) = .nx (env1.set 1 (some (g0 xs i1))) (W (B0 xs) a1 b1 c1) := set_nx e1
  have f1 : q_d__law_bodies_right_1 noTh (env1.set 1 (some (g0 xs i1))) (W (B0 xs) a1 b1 c1) = .nx ((env1.set 1 (some (g0 xs i1))).set 2 (some (g1 xs i2))) (W (B1 xs) a2 b2 c2) := set_nx e2
  have f2 : q_d__law_bodies_right_2 noTh ((env1.set 1 (some (g0 xs i1))).set 2 (some (g1 xs i2))) (W (B1 xs) a2 b2 c2) = .nx [some (.ref 1), some (g0 xs i1), some (g1 xs i2), some (g2 xs i3), none, none, none] (W (B2 xs) a3 b3 c3) := set_nx e3
  have f3 := q34_ok xs a3 b3 c3 (g0 xs i1) (g1 xs i2) (g2 xs i3)
  have r5 := map_eq2 (q5_ok xs a3 b3 c3 (g1 xs i2) (g2 xs i3)) h1
  have r6 := map_eq2 (q6_ok xs a3 b3 c3 (g1 xs i2) (g2 xs i3)) h1
  have r7 := map_eq2 (q7_ok xs a3 b3 c3 (g1 xs i2) (g2 xs i3)) h1
  have r8 := map_eq2 (q8_ok xs a3 b3 c3 (g1 xs i2) (g2 xs i3)) h1
  have r9 := map_eq2 (q9_ok xs a3 b3 c3 (g1 xs i2) (g2 xs i3)) h1
  have r10 := map_eq2 (q10_ok xs a3 b3 c3 (g1 xs i2) (g2 xs i3)) h1
  have r11 := map_eq2 (q11_ok xs a3 b3 c3 (g0 xs i1) (g2 xs i3)) h2
  have r12 := map_eq2 (q12_ok xs a3 b3 c3 (g0 xs i1) (g2 xs i3)) h2
  have r13 := q13_ok xs a3 b3 c3 (g0 xs i1) (g1 xs i2) (g2 xs i3)
  have r14 := q14_ok xs a3 b3 c3 (g0 xs i1) (g1 xs i2) (g2 xs i3)
  have r15 := map_eq2 (q15_ok xs a3 b3 c3 (g0 xs i1) (g1 xs i2)) h3
  have r16 := fun s => q16_ok xs a3 b3 c3 (g0 xs i1) (g1 xs i2) (g2 xs i3) s
  have la := map_eq2 (t17_ok xs a3 b3 c3 (g0 xs i1) (g1 xs i2)) h3
  have ns := map_eq2 (num_str xs) h3
  refine ⟨a3, b3, c3, ?_, d3, n3⟩
  generalize g0 xs i1 = v1 at *
  generalize g1 xs i2 = v2 at *
  generalize g2 xs i3 = v3 at *
  generalize numS v3 = z at *
  obtain ⟨s, rfl⟩ : ∃ s, z = .str s := by
    cases z with
    | str s => exact ⟨s, rfl⟩
    | _ => cases ns
  obtain ⟨st', e9⟩ := end2_ok la
  have k : d__law_bodies_right noTh env1 (W (B xs) a b c) = .rt (.bl true) (.fz xs :: .lst [.int a3, .int b3, .int c3] :: st') := by
    rw [t_d__law_bodies_right]
    unfold t_d__law_bodies_right_0 t_d__law_bodies_right_1 t_d__law_bodies_right_2 t_d__law_bodies_right_3 t_d__law_bodies_right_4 t_d__law_bodies_right_5 t_d__law_bodies_right_6 t_d__law_bodies_right_7 t_d__law_bodies_right_8 t_d__law_bodies_right_9 t_d__law_bodies_right_10 t_d__law_bodies_right_11 t_d__law_bodies_right_12 t_d__law_bodies_right_13 t_d__law_bodies_right_14 t_d__law_bodies_right_15 t_d__law_bodies_right_16
    rw [dSeq_nx f0, dSeq_nx f1, dSeq_nx f2, dSeq_assoc, dSeq_nx f3, dSeq_nx r5, dSeq_nx r6, dSeq_nx r7, dSeq_nx r8, dSeq_nx r9, dSeq_nx r10, dSeq_nx r11, dSeq_nx r12, dSeq_nx r13, dSeq_nx r14, dSeq_nx r15, dSeq_nx (r16 s)]
    exact e9
  have k2 : m__law_bodies_right [.ref 1] (W (B xs) a b c) = .ok (.bl true) (.fz xs :: .lst [.int a3, .int b3, .int c3] :: st') := by
    show (d__law_bodies_right noTh env1 (W (B xs) a b c)).fin = _
    rw [k]
    rfl
  show gcR 2 (m__law_bodies_right [.ref 1] (W (B xs) a b c)) = _
  rw [k2]
  rfl
end K15
end
section
set_option maxRecDepth 100000
set_option maxHeartbeats 4000000
noncomputable section
namespace K15
open PySem PySem.Spec PyProof.Rows L2 Mi
def text : PV := .str [116, 101, 120, 116]
def P5 : DE := (dApp fLst (dCons (dC .non) (dCons (dC (.int 0)) (dCons (dApp fLst (dCons (dC (.str [35])) (dNil))) (dCons (dApp fTup (dCons (dC (.str [35])) (dNil))) (dCons (dDict0) (dCons (dC (.bl true)) (dCons (dBin pPow (dC (.int 10)) (dC (.int 60))) (dNil)))))))))
def envT : Mi.Env := env0 4 [.ref 1]
/-- the call with the text x -/
def qL (x : DE) : DS := dExp (dMet isLst mAppend (dVar 2) (dCons (dGcE (dLam subM hsM aftM (dCallV ftab 3 (dCons x (dNil))))) (dNil)))
def got (u : PV) (s : Sto) : DE := fun _ _ _ => .ok u s
def argX : DE := dBin pMul (dC (.str [35, 59])) (dBin pAdd (dC (.int 1)) (dCall 2 f__law_ladle (dCons (dVar 0) (dCons (dC (.int 90)) (dNil)))))
theorem bo_eq : bo__law_texts_right_0 = qL argX := rfl
def rep (i : Nat) : List Nat := match pMul (.str [35, 59]) (.int (1 + (i : Int))) [] with
  | .ok (.str s) _ => s
  | _ => []
section
variable (xs : List PV) (a b c d e f : Int) (v : PV) (o : Option PV) (st : Sto)
def C0 : Sto := stoR (P5 noTh envT (B xs))
def kt : Nat := refR (P5 noTh envT (B xs))
theorem p5_ok : P5 noTh envT (W (B xs) a b c) = .ok (.ref (kt xs)) (W (C0 xs) a b c) := by kernel_rfl
theorem m5_ok : (C0 xs)[kt xs]? = some (.lst (lstS (C0 xs) (kt xs))) := by kernel_rfl
theorem l5_ok : (lstS (C0 xs) (kt xs)).length = 6 + 1 := by kernel_rfl
theorem z5_ok : Nat.ble 2 (C0 xs).length = true := by kernel_rfl
theorem y5_ok : Nat.beq (kt xs) 1 = false := by kernel_rfl
def g5 (i : Nat) : PV := (lstS (C0 xs) (kt xs)).getD i .non
def T2 (ts : List PV) : Sto := W (C0 xs ++ [.lst ts]) a b c
def EV2 (o : Option PV) : Mi.Env := [some (.ref 1), some v, some (.ref (C0 xs).length), o]
theorem rep_ok : ((List.range 90).map fun i : Nat => pMul (.str [35, 59]) (.int (1 + (i : Int))) st) = (List.range 90).map fun i => .ok (.str (rep i)) st := by kernel_rfl
theorem u1_ok : q_d__law_texts_right_1 noTh [some (.ref 1), some v, none, none] (W (C0 xs) a b c) = .nx (EV2 xs v none) (T2 xs a b c []) := by kernel_rfl
theorem u2_ok : ((List.range 7).map fun i => q_d__law_texts_right_2 noTh (EV2 xs (g5 xs i) none) (T2 xs a b c [])) = (List.range 7).map fun i => .nx (EV2 xs (g5 xs i) (some (.fn 4))) (T2 xs a b c [text, text, text]) := by kernel_rfl
theorem w6_ok : ((List.range 90).map fun i => qL (got (.str (rep i)) (W (C0 xs ++ [.lst [text, text, text]]) a b c)) noTh (EV2 xs v (some (.fn 6))) (T2 xs d e f [text, text, text])) = (List.range 90).map fun i => .nx (EV2 xs v (some (.fn 6))) (T2 xs a b c [text, text, text, fine]) := by kernel_rfl
theorem w5_ok : ((List.range 90).map fun i => qL (got (.str (rep i)) (W (C0 xs ++ [.lst [text, text, text, fine]]) a b c)) noTh (EV2 xs v (some (.fn 5))) (T2 xs d e f [text, text, text, fine])) = (List.range 90).map fun i => .nx (EV2 xs v (some (.fn 5))) (T2 xs a b c [text, text, text, fine, fine]) := by kernel_rfl
theorem w4_ok : ((List.range 90).map fun i => qL (got (.str (rep i)) (W (C0 xs ++ [.lst [text, text, text, fine, fine]]) a b c)) noTh (EV2 xs v (some (.fn 4))) (T2 xs d e f [text, text, text, fine, fine])) = (List.range 90).map fun i => .nx (EV2 xs v (some (.fn 4))) (T2 xs a b c [text, text, text, fine, fine, fine]) := by kernel_rfl
theorem t4_ok : end2 (t_d__law_texts_right_4 noTh (EV2 xs v (some (.fn 4))) (T2 xs a b c [text, text, text, fine, fine, fine])) = some (.fz xs, .lst [.int a, .int b, .int c]) := by kernel_rfl
end
end K15
end
end
section
set_option maxRecDepth 100000
set_option maxHeartbeats 4000000
namespace K15
open PySem PySem.Spec PyProof.Rows L2 Mi
theorem forV_nx {t : Tg} {body : DS} {th : Th} {x : PV} {xs : List PV} {env env1 env2 : Mi.Env} {st st2 : Sto} (h : t.set x env = some env1) (hb : body th env1 st = .nx env2 st2) : forV t body th (x :: xs) env st = forV t body th xs env2 st2 := by
  show (match t.set x env with | some env => _ | none => _) = _
  rw [h]
  show (match body th env1 st with | .nx env st => _ | .ct env st => _ | .bk env st => _ | r => r) = _
  rw [hb]
/-- a hole in a call under a lambda -/
theorem qL_hole {x y : DE} {env : Mi.Env} {s : Sto} {k j n : Nat} {F : Fn} (h2 : env[2]? = some (some (.ref k))) (h3 : env[3]? = some (some (.fn j))) (hj : ftab j = some (n, F)) (h : x noTh env s = y noTh env s) : qL x noTh env s = qL y noTh env s := by
  have d2 : dVar 2 noTh env s = .ok (.ref k) s := by
    unfold dVar
    rw [h2]
  have e1 : ∀ z : DE, dCons z dNil noTh env s = (z noTh env s).bind fun p s1 => .ok [p] s1 := fun z => by
    unfold dCons
    cases z noTh env s <;> rfl
  have e2 : dCons x dNil noTh env s = dCons y dNil noTh env s := by rw [e1, e1, h]
  have z : ∀ a, dCallV ftab 3 a noTh env s = dCall n F a noTh env s := fun a => by
    unfold dCallV
    rw [h3]
    show (match ftab j with | some (n, F) => _ | none => _) = _
    rw [hj]
  have e3 : dCallV ftab 3 (dCons x dNil) noTh env s = dCallV ftab 3 (dCons y dNil) noTh env s := by
    rw [z, z]
    unfold dCall
    rw [e2]
  have e4 : dGcE (dLam subM hsM aftM (dCallV ftab 3 (dCons x dNil))) noTh env s = dGcE (dLam subM hsM aftM (dCallV ftab 3 (dCons y dNil))) noTh env s := by
    unfold dGcE dLam
    rw [e3]
  unfold qL
  generalize dGcE (dLam subM hsM aftM (dCallV ftab 3 (dCons x dNil))) = A at *
  generalize dGcE (dLam subM hsM aftM (dCallV ftab 3 (dCons y dNil))) = C at *
  have e5 : dCons A dNil noTh env s = dCons C dNil noTh env s := by
    unfold dCons
    rw [e4]
  unfold dExp dMet
  rw [d2]
  dsimp only [Res.bind]
  rw [e5]
theorem argX_ok {env : Mi.Env} {S : Sto} {a b c : Int} {n : Nat} (h0 : env[0]? = some (some (.ref 1))) (h1 : Nat.ble 2 S.length = true) (c0 : 0 ≤ c) (cn : c ≤ n) (hn : n ≤ 100000) :
    ∃ r a' b' c', r < 90 ∧ argX noTh env (W S a b c) = got (.str (rep r)) (W S a' b' c') noTh env (W S a b c) ∧ 0 ≤ c' ∧ c' ≤ (n + 1 : Nat) := by
  have hg : (W S a b c)[1]? = some (.lst [.int a, .int b, .int c]) := List.getElem?_set_self (Nat.le_of_ble_eq_true h1)
  obtain ⟨r, a', b', c', e, r0, r1, z1, z2⟩ := ladle_ok (w := 1) (m := 90) hg c0 cn hn (by decide) (by decide)
  refine ⟨r.toNat, a', b', c', by omega, ?_, z1, z2⟩
  have d0 : dVar 0 noTh env (W S a b c) = .ok (.ref 1) (W S a b c) := by
    unfold dVar
    rw [h0]
  have ec : dCons (dVar 0) (dCons (dC (.int 90)) dNil) noTh env (W S a b c) = .ok [.ref 1, .int 90] (W S a b c) := by
    unfold dCons
    rw [d0]
    rfl
  have es : (W S a b c).set 1 (.lst [.int a', .int b', .int c']) = W S a' b' c' := by
    unfold W
    rw [List.set_set]
  have el : dCall 2 f__law_ladle (dCons (dVar 0) (dCons (dC (.int 90)) dNil)) noTh env (W S a b c) = .ok (.int r) (W S a' b' c') := by
    unfold dCall
    rw [ec]
    show f__law_ladle [.ref 1, .int 90] (W S a b c) = _
    rw [e, es]
  have hr := map_eq2 (rep_ok (W S a' b' c')) (i := r.toNat) (by omega)
  have er : ((r.toNat : Nat) : Int) = r := by omega
  show ((dC (.str [35, 59])) noTh env (W S a b c)).bind (fun x st1 => ((((dC (.int 1)) noTh env st1).bind fun y st2 => (dCall 2 f__law_ladle (dCons (dVar 0) (dCons (dC (.int 90)) dNil)) noTh env st2).bind fun z st3 => pAdd y z st3)).bind fun y st2 => pMul x y st2) = .ok (.str (rep r.toNat)) (W S a' b' c')
  show (((dCall 2 f__law_ladle (dCons (dVar 0) (dCons (dC (.int 90)) dNil)) noTh env (W S a b c)).bind fun z st3 => pAdd (.int 1) z st3)).bind (fun y st2 => pMul (.str [35, 59]) y st2) = _
  rw [el]
  show pMul (.str [35, 59]) (.int (1 + r)) (W S a' b' c') = _
  rw [← er]
  exact hr
theorem q3_eq (env : Mi.Env) (S : Sto) : q_d__law_texts_right_3 noTh env S = forV (.nm 3) (qL argX) noTh [.fn 6, .fn 5, .fn 4] env S := rfl
theorem texts_ok {xs : List PV} {a b c : Int} {n : Nat} (c0 : 0 ≤ c) (cn : c ≤ n) (hn : n ≤ 90000) : ∃ a' b' c' : Int, f__law_texts_right [.ref 1] [.fz xs, .lst [.int a, .int b, .int c]] = .ok (.bl true) [.fz xs, .lst [.int a', .int b', .int c']] := by
  obtain ⟨i1, a1, b1, c1, h1, e1, d1, n1⟩ := spoonE (n := n) rfl (p5_ok xs a b c) (m5_ok xs) (z5_ok xs) (l5_ok xs) (by decide) (y5_ok xs) c0 cn (by omega)
  have f0 : q_d__law_texts_right_0 noTh envT (W (B xs) a b c) = .nx [some (.ref 1), some (g5 xs i1), none, none] (W (C0 xs) a1 b1 c1) := set_nx e1
  have f1 := u1_ok xs a1 b1 c1 (g5 xs i1)
  have f2 := map_eq2 (u2_ok xs a1 b1 c1) h1
  generalize g5 xs i1 = v at *
  have zz : ∀ ts : List PV, Nat.ble 2 (C0 xs ++ [SO.lst ts]).length = true := fun ts => by
    rw [List.length_append]
    exact Nat.ble_eq_true_of_le (Nat.le_trans (Nat.le_of_ble_eq_true (z5_ok xs)) (Nat.le_add_right _ _))
  obtain ⟨r6, a2, b2, c2, h6, e6, d2, n2⟩ := argX_ok (n := n + 1) (env := EV2 xs v (some (.fn 6))) (S := C0 xs ++ [.lst [text, text, text]]) rfl (zz _) d1 n1 (by omega)
  obtain ⟨r5, a3, b3, c3, h5, e5, d3, n3⟩ := argX_ok (n := n + 2) (env := EV2 xs v (some (.fn 5))) (S := C0 xs ++ [.lst [text, text, text, fine]]) rfl (zz _) d2 n2 (by omega)
  obtain ⟨r4, a4, b4, c4, h4, e4, d4, n4⟩ := argX_ok (n := n + 3) (env := EV2 xs v (some (.fn 4))) (S := C0 xs ++ [.lst [text, text, text, fine, fine]]) rfl (zz _) d3 n3 (by omega)
  have x6 : qL argX noTh (EV2 xs v (some (.fn 6))) (T2 xs a1 b1 c1 [text, text, text]) = .nx (EV2 xs v (some (.fn 6))) (T2 xs a2 b2 c2 [text, text, text, fine]) := by
    refine (qL_hole (k := (C0 xs).length) (j := 6) rfl rfl rfl e6).trans ?_
    exact map_eq2 (w6_ok xs a2 b2 c2 a1 b1 c1 v) h6
  have x5 : qL argX noTh (EV2 xs v (some (.fn 5))) (T2 xs a2 b2 c2 [text, text, text, fine]) = .nx (EV2 xs v (some (.fn 5))) (T2 xs a3 b3 c3 [text, text, text, fine, fine]) := by
    refine (qL_hole (k := (C0 xs).length) (j := 5) rfl rfl rfl e5).trans ?_
    exact map_eq2 (w5_ok xs a3 b3 c3 a2 b2 c2 v) h5
  have x4 : qL argX noTh (EV2 xs v (some (.fn 4))) (T2 xs a3 b3 c3 [text, text, text, fine, fine]) = .nx (EV2 xs v (some (.fn 4))) (T2 xs a4 b4 c4 [text, text, text, fine, fine, fine]) := by
    refine (qL_hole (k := (C0 xs).length) (j := 4) rfl rfl rfl e4).trans ?_
    exact map_eq2 (w4_ok xs a4 b4 c4 a3 b3 c3 v) h4
  have f3 : q_d__law_texts_right_3 noTh (EV2 xs v (some (.fn 4))) (T2 xs a1 b1 c1 [text, text, text]) = .nx (EV2 xs v (some (.fn 4))) (T2 xs a4 b4 c4 [text, text, text, fine, fine, fine]) := by
    rw [q3_eq, forV_nx (t := .nm 3) rfl x6, forV_nx (t := .nm 3) rfl x5, forV_nx (t := .nm 3) rfl x4]
    rfl
  refine ⟨a4, b4, c4, ?_⟩
  obtain ⟨st', e9⟩ := end2_ok (t4_ok xs a4 b4 c4 v)
  have k : d__law_texts_right noTh envT (W (B xs) a b c) = .rt (.bl true) (.fz xs :: .lst [.int a4, .int b4, .int c4] :: st') := by
    rw [t_d__law_texts_right]
    unfold t_d__law_texts_right_0 t_d__law_texts_right_1 t_d__law_texts_right_2 t_d__law_texts_right_3
    rw [dSeq_nx f0, dSeq_nx f1, dSeq_nx f2, dSeq_nx f3]
    exact e9
  have k2 : m__law_texts_right [.ref 1] (W (B xs) a b c) = .ok (.bl true) (.fz xs :: .lst [.int a4, .int b4, .int c4] :: st') := by
    show (d__law_texts_right noTh envT (W (B xs) a b c)).fin = _
    rw [k]
    rfl
  show gcR 2 (m__law_texts_right [.ref 1] (W (B xs) a b c)) = _
  rw [k2]
  rfl
end K15
end
section
set_option maxRecDepth 100000
set_option maxHeartbeats 4000000
noncomputable section
namespace K15
open PySem PySem.Spec PyProof.Rows L2 Mi
def LL (o : Option Int) (o3 : Option PV) : Mi.Env := [some (.ref 0), o.map .int, some (.ref 1), o3, none]
theorem h1 (xs : List PV) (o : Option Int) : q_d_law_1 noTh [some (.ref 0), o.map .int, none, none, none] [.fz xs] = .nx (LL o none) [.fz xs, .lst [fine]] := by kernel_rfl
theorem h2 (xs : List PV) (o : Option Int) : q_d_law_2 noTh (LL o none) [.fz xs, .lst [fine]] = .nx (LL o none) [.fz xs, .lst [fine, fine]] := by kernel_rfl
theorem h4 (xs : List PV) (o : Option Int) : endT (t_d_law_4 noTh (LL o (some (.fn 4))) [.fz xs, .lst [fine, fine, fine, fine, fine]]) = some (.fz xs) := by kernel_rfl
/-! ### a long text of noughts -/
def zz : List Nat := (List.replicate 60000 [48]).flatten
theorem zz_eq : zz = List.replicate 60000 48 := by
  unfold zz
  have : ∀ n, (List.replicate n [48]).flatten = List.replicate n 48 := fun n => by
    induction n with
    | zero => rfl
    | succ n ih => rw [List.replicate_succ, List.flatten_cons, ih, List.replicate_succ]; rfl
  exact this _
theorem zz_len : zz.length = 60000 := by rw [zz_eq, List.length_replicate]
theorem zz_ok : okT zz = true := by
  unfold okT
  rw [zz_len, Bool.and_eq_true]
  refine ⟨rfl, List.all_eq_true.mpr fun c hc => ?_⟩
  rw [zz_eq] at hc
  rw [List.eq_of_mem_replicate hc]
  rfl
theorem zz_win : wins zz = [] := by
  unfold wins
  refine winsFrom_none fun j _ hj => ?_
  have hc := List.mem_of_getElem? hj
  rw [zz_eq] at hc
  exact absurd (List.eq_of_mem_replicate hc) (by decide)
theorem mul_zz (st : Sto) : pMul (.str [48]) (.int 60000) st = .ok (.str zz) st := by
  show (if cRepS 1 60000 = true then Res.ok (PV.str (List.replicate (60000 : Int).toNat [48]).flatten) st else Res.bad) = _
  rw [if_pos (show cRepS 1 60000 = true by decide)]
  rfl
section
variable {z : List Nat} (hz : okT z = true) (hw : wins z = []) (hl : z.length ≠ 122) (xs ts : List PV)
include hz hw in
theorem found_in_z : f_found_in [.str z] [.fz xs, .lst ts] = .ok (.ref 3) [.fz xs, .lst ts, .lst [], .lst []] := by
  have w : dCall 1 f_windows_found (dCons (dVar 0) (dNil)) noTh [some (.str z), none, none] [.fz xs, .lst ts] = .ok (.ref 2) [.fz xs, .lst ts, .lst []] := by
    show f_windows_found [.str z] [.fz xs, .lst ts] = _
    rw [found_f hz, hw]
    rfl
  have it : dIt (dCall 1 f_windows_found (dCons (dVar 0) (dNil))) noTh [some (.str z), none, none] [.fz xs, .lst ts] = .ok (.dyn 1 (lstG 2)) [.fz xs, .lst ts, .lst []] := by
    unfold dIt
    rw [w]
    rfl
  have lc : dLc (dIt (dCall 1 f_windows_found (dCons (dVar 0) (dNil)))) (.tp [.nm 1, .nm 2]) (dNoT) (bo_found_in_0) [1, 2] noTh [some (.str z), none, none] [.fz xs, .lst ts] = .ok (.ref 3) [.fz xs, .lst ts, .lst [], .lst []] := by
    unfold dLc
    rw [it]
    rfl
  show mkF 3 (dRet _) _ _ = _
  show RS.fin ((dLc (dIt (dCall 1 f_windows_found (dCons (dVar 0) (dNil)))) (.tp [.nm 1, .nm 2]) (dNoT) (bo_found_in_0) [1, 2] noTh [some (.str z), none, none] [.fz xs, .lst ts]).s [some (.str z), none, none] fun v st => .rt v st) = _
  rw [lc]
  rfl
include hz hl in
theorem told_z : f_told_frame [.str z] [.fz xs, .lst ts] = .ok .non [.fz xs, .lst ts] := by
  have e := e_len [.fz xs, .lst ts] (okT_of hz).2.2
  have n : pEq (.int (z.length : Int)) (.int 122) [.fz xs, .lst ts] = .ok (.bl false) [.fz xs, .lst ts] := by
    show Res.ok (PV.bl (decide ((z.length : Int) = 122))) _ = _
    rw [decide_eq_false (by omega)]
  have r := req_f hz [.fz xs, .lst ts]
  have q1 : dExp (dCall 1 f_require_text (dCons (dVar 0) (dNil))) noTh [some (.str z), none] [.fz xs, .lst ts] = .nx [some (.str z), none] [.fz xs, .lst ts] := by
    show ((f_require_text [.str z] [.fz xs, .lst ts]).s [some (.str z), none] fun _ st => .nx [some (.str z), none] st) = _
    rw [r]
    rfl
  have c : dTB (dBin pEq (dApp fLen (dCons (dVar 0) (dNil))) (dC (.int 122))) noTh [some (.str z), none] [.fz xs, .lst ts] = .ok false [.fz xs, .lst ts] := by
    have d : dBin pEq (dApp fLen (dCons (dVar 0) (dNil))) (dC (.int 122)) noTh [some (.str z), none] [.fz xs, .lst ts] = .ok (.bl false) [.fz xs, .lst ts] := by
      show ((fLen [.str z] [.fz xs, .lst ts]).bind fun x st1 => pEq x (.int 122) st1) = _
      rw [e]
      exact n
    unfold dTB
    rw [d]
    rfl
  have q2 : dSet (.nm 1) (dIf (dTB (dBin pEq (dApp fLen (dCons (dVar 0) (dNil))) (dC (.int 122)))) (dCall 2 f_window_at (dCons (dVar 0) (dCons (dC (.int 0)) (dNil)))) (dC .non)) noTh [some (.str z), none] [.fz xs, .lst ts] = .nx [some (.str z), some .non] [.fz xs, .lst ts] := by
    unfold dSet dIf
    rw [c]
    rfl
  show mkF 2 d_told_frame _ _ = _
  show RS.fin (d_told_frame noTh [some (.str z), none] [.fz xs, .lst ts]) = _
  unfold d_told_frame
  rw [dSeq_nx q1, dSeq_nx q2]
  rfl
theorem req_q {k : Nat} (hz : okT z = true) (env : Mi.Env) : dExp (dCall 1 f_require_text (dCons (dVar 0) (dNil))) noTh (some (.str z) :: env) [.fz xs, .lst ts] = .nx (some (.str z) :: env) [.fz xs, .lst ts] := by
  show ((f_require_text [.str z] [.fz xs, .lst ts]).s (some (.str z) :: env) fun _ st => .nx (some (.str z) :: env) st) = _
  rw [req_f hz]
  rfl
include hz hw in
theorem found_z : f_found_frames [.str z] [.fz xs, .lst ts] = .ok (.tup []) [.fz xs, .lst ts, .lst [], .lst []] := by
  have c : dCall 1 f_found_in (dCons (dVar 0) (dNil)) noTh [some (.str z)] [.fz xs, .lst ts] = .ok (.ref 3) [.fz xs, .lst ts, .lst [], .lst []] := found_in_z hz hw xs ts
  have d : dCons (dCall 1 f_found_in (dCons (dVar 0) (dNil))) dNil noTh [some (.str z)] [.fz xs, .lst ts] = .ok [.ref 3] [.fz xs, .lst ts, .lst [], .lst []] := by
    unfold dCons
    rw [show dCall 1 f_found_in (fun th env st => ((dVar 0 th env st).bind fun p st1 => (dNil th env st1).bind fun ps st2 => .ok (p :: ps) st2)) noTh [some (.str z)] [.fz xs, .lst ts] = _ from c]
    rfl
  show RS.fin (d_found_frames noTh [some (.str z)] [.fz xs, .lst ts]) = _
  unfold d_found_frames
  rw [dSeq_nx (req_q (k := 0) xs ts hz [])]
  show RS.fin (((dCons (dCall 1 f_found_in (dCons (dVar 0) (dNil))) dNil noTh [some (.str z)] [.fz xs, .lst ts]).bind fun ps st => fTuple ps st).s [some (.str z)] fun v st => .rt v st) = _
  rw [d]
  rfl
include hz hw in
theorem bodies_z : f_bodies_in [.str z] [.fz xs, .lst ts] = .ok (.tup []) [.fz xs, .lst ts, .lst [], .lst [], .dct [], .lst []] := by
  have c : dCall 1 f_found_in (dCons (dVar 0) (dNil)) noTh [some (.str z), none, none] [.fz xs, .lst ts] = .ok (.ref 3) [.fz xs, .lst ts, .lst [], .lst []] := found_in_z hz hw xs ts
  have it : dIt (dCall 1 f_found_in (dCons (dVar 0) (dNil))) noTh [some (.str z), none, none] [.fz xs, .lst ts] = .ok (.dyn 1 (lstG 3)) [.fz xs, .lst ts, .lst [], .lst []] := by
    unfold dIt
    rw [c]
    rfl
  have dc : dDc (dIt (dCall 1 f_found_in (dCons (dVar 0) (dNil)))) (.tp [.nm 1, .nm 2]) (dYes) (bo_bodies_in_0) (bo_bodies_in_1) [1, 2] noTh [some (.str z), none, none] [.fz xs, .lst ts] = .ok (.ref 4) [.fz xs, .lst ts, .lst [], .lst [], .dct []] := by
    unfold dDc
    rw [it]
    rfl
  show RS.fin (d_bodies_in noTh [some (.str z), none, none] [.fz xs, .lst ts]) = _
  unfold d_bodies_in
  rw [dSeq_nx (req_q (k := 0) xs ts hz [none, none])]
  generalize dDc (dIt (dCall 1 f_found_in (dCons (dVar 0) (dNil)))) (.tp [.nm 1, .nm 2]) (dYes) (bo_bodies_in_0) (bo_bodies_in_1) [1, 2] = D at *
  have d1 : dApp fSortD (dCons D dNil) noTh [some (.str z), none, none] [.fz xs, .lst ts] = .ok (.ref 5) [.fz xs, .lst ts, .lst [], .lst [], .dct [], .lst []] := by
    unfold dApp dCons
    rw [dc]
    rfl
  generalize dApp fSortD (dCons D dNil) = D2 at *
  have d2 : dApp fTuple (dCons D2 dNil) noTh [some (.str z), none, none] [.fz xs, .lst ts] = .ok (.tup []) [.fz xs, .lst ts, .lst [], .lst [], .dct [], .lst []] := by
    unfold dApp dCons
    rw [d1]
    rfl
  generalize dApp fTuple (dCons D2 dNil) = D3 at *
  unfold dRet
  rw [d2]
  rfl
end
theorem law_turn {j : Nat} {F : Fn} {xs ts : List PV} {v : PV} {g : Sto} (o : Option Int) (hF : ftab j = some (1, F)) (hr : F [.str zz] [.fz xs, .lst ts] = .ok v (.fz xs :: .lst ts :: g)) (hc : clVs 2 ts = true) (hsz : ts.length < 16777216) : qL (got (.str zz) [.fz xs, .lst ts]) noTh (LL o (some (.fn j))) [.fz xs, .lst ts] = .nx (LL o (some (.fn j))) [.fz xs, .lst (ts ++ [fine])] := by
  have a : dCallV ftab 3 (dCons (got (.str zz) [.fz xs, .lst ts]) dNil) noTh (LL o (some (.fn j))) [.fz xs, .lst ts] = .ok v (.fz xs :: .lst ts :: g) := by
    unfold dCallV LL
    show (match ftab j with | some (n, F) => _ | none => _) = _
    rw [hF]
    exact hr
  have b : dGcE (dLam subM hsM aftM (dCallV ftab 3 (dCons (got (.str zz) [.fz xs, .lst ts]) dNil))) noTh (LL o (some (.fn j))) [.fz xs, .lst ts] = .ok fine [.fz xs, .lst ts] := by
    unfold dGcE dLam
    rw [a]
    show gcR 2 (.ok fine (.fz xs :: .lst ts :: g)) = _
    show (if (clV 2 fine && clS 2 [.fz xs, .lst ts] && true) = true then Res.ok fine [.fz xs, .lst ts] else Res.ok fine (.fz xs :: .lst ts :: g)) = _
    rw [if_pos (by
      rw [Bool.and_eq_true, Bool.and_eq_true]
      refine ⟨⟨rfl, ?_⟩, rfl⟩
      show clS 2 [.fz xs, .lst ts] = true
      unfold clS
      show (_ && (clVs 2 ts && true)) = true
      rw [hc]
      rfl)]
  unfold qL
  generalize dGcE (dLam subM hsM aftM (dCallV ftab 3 (dCons (got (.str zz) [.fz xs, .lst ts]) dNil))) = D at *
  have c : dCons D dNil noTh (LL o (some (.fn j))) [.fz xs, .lst ts] = .ok [fine] [.fz xs, .lst ts] := by
    unfold dCons
    rw [b]
    rfl
  have m : dMet isLst mAppend (dVar 2) (dCons D dNil) noTh (LL o (some (.fn j))) [.fz xs, .lst ts] = .ok .non [.fz xs, .lst (ts ++ [fine])] := by
    have d2 : dVar 2 noTh (LL o (some (.fn j))) [.fz xs, .lst ts] = .ok (.ref 1) [.fz xs, .lst ts] := rfl
    unfold dMet
    rw [d2]
    show (if isLst (.ref 1) [.fz xs, .lst ts] = true then (dCons D dNil noTh (LL o (some (.fn j))) [.fz xs, .lst ts]).bind fun xs st2 => mAppend (.ref 1) xs st2 else Res.bad) = _
    rw [if_pos (show isLst (.ref 1) [.fz xs, .lst ts] = true from rfl), c]
    show mAppend (.ref 1) [fine] [.fz xs, .lst ts] = _
    rw [e_append (a := 1) (xs := ts) rfl hsz]
    rfl
  unfold dExp
  rw [m]
  rfl
end K15
end
end
section
set_option maxRecDepth 100000
set_option maxHeartbeats 4000000
namespace K15
open PySem PySem.Spec PyProof.Rows L2 Mi
theorem bo_ok {j : Nat} {F : Fn} {xs ts : List PV} {v : PV} {g : Sto} (o : Option Int) (hF : ftab j = some (1, F)) (hr : F [.str zz] [.fz xs, .lst ts] = .ok v (.fz xs :: .lst ts :: g)) (hc : clVs 2 ts = true) (hc2 : clVs 2 (ts ++ [fine]) = true) (hsz : ts.length < 16777216) : bo_law_0 noTh (LL o (some (.fn j))) [.fz xs, .lst ts] = .nx (LL o (some (.fn j))) [.fz xs, .lst (ts ++ [fine])] := by
  have e : qL (dBin pMul (dC (.str [48])) (dC (.int 60000))) noTh (LL o (some (.fn j))) [.fz xs, .lst ts] = .nx (LL o (some (.fn j))) [.fz xs, .lst (ts ++ [fine])] := by
    refine (qL_hole (k := 1) (j := j) rfl rfl hF (y := got (.str zz) [.fz xs, .lst ts]) (mul_zz _)).trans ?_
    exact law_turn o hF hr hc hsz
  show gcS (qL (dBin pMul (dC (.str [48])) (dC (.int 60000)))) noTh (LL o (some (.fn j))) [.fz xs, .lst ts] = _
  unfold gcS
  rw [e]
  show (if (clS 2 [.fz xs, .lst (ts ++ [fine])] && true) = true then RS.nx (cutE 2 (LL o (some (.fn j)))) [.fz xs, .lst (ts ++ [fine])] else _) = _
  rw [if_pos (by
    rw [Bool.and_true]
    unfold clS
    show (true && (clVs 2 (ts ++ [fine]) && true)) = true
    rw [hc2]
    rfl)]
  cases o <;> rfl
theorem q3l_eq (env : Mi.Env) (S : Sto) : q_d_law_3 noTh env S = forV (.nm 3) bo_law_0 noTh [.fn 6, .fn 5, .fn 4] env S := rfl
theorem h3 (xs : List PV) (o : Option Int) : q_d_law_3 noTh (LL o none) [.fz xs, .lst [fine, fine]] = .nx (LL o (some (.fn 4))) [.fz xs, .lst [fine, fine, fine, fine, fine]] := by
  have x6 := bo_ok (j := 6) (xs := xs) (ts := [fine, fine]) (g := []) o rfl (told_z zz_ok (by rw [zz_len]; decide) xs [fine, fine]) rfl rfl (by decide)
  have x5 := bo_ok (j := 5) (xs := xs) (ts := [fine, fine, fine]) o rfl (found_z zz_ok zz_win xs [fine, fine, fine]) rfl rfl (by decide)
  have x4 := bo_ok (j := 4) (xs := xs) (ts := [fine, fine, fine, fine]) o rfl (bodies_z zz_ok zz_win xs [fine, fine, fine, fine]) rfl rfl (by decide)
  simp only [List.cons_append, List.nil_append] at x6 x5 x4
  rw [q3l_eq, forV_nx (t := .nm 3) (by rfl) x6, forV_nx (t := .nm 3) (by rfl) x5, forV_nx (t := .nm 3) (by rfl) x4]
  rfl
theorem turn_ok {ns : List Int} {i : Nat} (hi : i < 4) (hn : ns.length ≤ 63) : bo_law_1 noTh [some (.ref 0), some (.int i), none, none, none] [.fz (ns.map .int)] = .nx [some (.ref 0), some (.int i), none, none, none] [.fz (ns.map .int)] := by
  obtain ⟨a, b, e1⟩ := churn_ok hi hn
  obtain ⟨a2, b2, c2, e2, h0, h1⟩ := bodies_ok (xs := ns.map .int) (a := a) (b := b) (c := 0) (n := 0) (by decide) (by decide) (by decide)
  obtain ⟨a3, b3, c3, e3⟩ := texts_ok (xs := ns.map .int) (a := a2) (b := b2) (c := c2) (n := 3) h0 h1 (by decide)
  have e : dSeq (dSet (.nm 4) (dCall 2 f__law_churn (dCons (dVar 0) (dCons (dVar 1) (dNil))))) (dIfS (dOrT (dNotT (dTst (dCall 1 f__law_bodies_right (dCons (dVar 4) (dNil))))) (dNotT (dTst (dCall 1 f__law_texts_right (dCons (dVar 4) (dNil)))))) (dNever) (dSkip)) noTh [some (.ref 0), some (.int i), none, none, none] [.fz (ns.map .int)] = .nx [some (.ref 0), some (.int i), none, none, some (.ref 1)] [.fz (ns.map .int), .lst [.int a3, .int b3, .int c3]] := by
    simp only [mkF, env0, dSeq, dSet, dIfS, dRet, dRetN, dExp, dBin, dUn, dVar, dC, dCons, dNil, dApp, dMet, dCall, dCallV, b_ok, b_bad, s_ok, f_rt, f_nx, dTB, dTst, dNotT, dOrT, dAndT, dAnd, dOr, dNot, dChain, dIf, dSkip, dNever, Tg.set, e_le, e_lt, e_ge, e_gt, e_add, e_sub, List.map_cons, List.map_nil, List.length_cons, List.length_nil, List.replicate, List.cons_append, List.nil_append, List.append_nil, List.getElem?_cons_zero, List.getElem?_cons_succ, List.set_cons_zero, List.set_cons_succ, Nat.sub_self, Nat.reduceSub, Nat.reduceAdd, wipeE, Nat.beq, if_true, e1, e2, e3, pTru, Bool.not_true]
  show gcS _ noTh _ _ = _
  unfold gcS
  rw [e]
  rfl
theorem plain : Plain f_law := by
  intro ns hn hb
  have l0 : lstAt [SO.fz (ns.map .int)] 0 = some (ns.map .int) := rfl
  have le := e_lenR l0
  rw [List.length_map] at le
  generalize hj : (if (if (ns.length : Int) < 4 then (ns.length : Int) else 4) > 1 then (if (ns.length : Int) < 4 then (ns.length : Int) else 4) else 1) = j
  have j0 : 0 ≤ j ∧ j ≤ 4 := by
    rw [← hj]
    split <;> (try split) <;> omega
  have hr : ∀ s, fRng1 [.int j] s = .ok (.vals (rngV 0 1 j.toNat)) s := fun s => e_rng1 s (okI_small (by omega) (by omega))
  obtain ⟨env', s1, e1, o, rfl, rfl⟩ := forV_inv (B := j.toNat) (t := .nm 1) (body := bo_law_1) (th := noTh) (I := fun m env s => ∃ o : Option Int, env = [some (.ref 0), o.map .int, none, none, none] ∧ s = [.fz (ns.map .int)]) (rngV 0 1 j.toNat)
    (fun y hy m env s hm ⟨o, he, hz⟩ => by
      subst he
      subst hz
      obtain ⟨i, rfl, hi2⟩ := rng_mem hy
      exact ⟨_, rfl, _, _, turn_ok (by omega) hn, ⟨some (i : Int), rfl, rfl⟩⟩)
    0 [some (.ref 0), none, none, none, none] [SO.fz (ns.map .int)] (by rw [rngV_len]; omega) ⟨none, rfl, rfl⟩
  have q0 : q_d_law_0 noTh (env0 5 [.ref 0]) [SO.fz (ns.map .int)] = .nx [some (.ref 0), o.map .int, none, none, none] [.fz (ns.map .int)] := by
    simp only [q_d_law_0, dFor, dRng, mkF, env0, dSeq, dSet, dIfS, dRet, dRetN, dExp, dBin, dUn, dVar, dC, dCons, dNil, dApp, dMet, dCall, dCallV, b_ok, b_bad, s_ok, f_rt, f_nx, dTB, dTst, dNotT, dOrT, dAndT, dAnd, dOr, dNot, dChain, dIf, dSkip, dNever, Tg.set, e_le, e_lt, e_ge, e_gt, e_add, e_sub, List.map_cons, List.map_nil, List.length_cons, List.length_nil, List.replicate, List.cons_append, List.nil_append, List.append_nil, List.getElem?_cons_zero, List.getElem?_cons_succ, List.set_cons_zero, List.set_cons_succ, Nat.sub_self, Nat.reduceSub, Nat.reduceAdd, wipeE, le, e_min2, e_max2, hj, hr]
    exact e1
  obtain ⟨s4, e4⟩ := endT_ok (h4 (ns.map .int) o)
  refine ⟨.fz (ns.map .int) :: s4, ?_⟩
  show mkF 5 d_law _ _ = _
  rw [t_d_law]
  unfold mkF t_d_law_0 t_d_law_1 t_d_law_2 t_d_law_3
  rw [sq q0, sq (h1 (ns.map .int) o), sq (h2 (ns.map .int) o), sq (h3 (ns.map .int) o), e4]
  rfl
end K15
end
section
set_option maxRecDepth 100000
set_option maxHeartbeats 0
namespace K15
open PySem PySem.Spec PyProof.Rows L2 Mi
abbrev PR : PySem.Program := PySem.Challenge.pw_stillread_k15_errors_of_frames
def top (i : Nat) : Stmt := PR.main.body.getD i (.Pass ⟨0, 0, 0, 0⟩)
def dD (i : Nat) (n : Str) : He.DefD := ⟨(n, none), n, n, defArgs (top i), defBody (top i), defScope (top i), [], []⟩
def fn : List He.DefD := [dD 9 "is_whole", dD 10 "is_within", dD 11 "require_within", dD 12 "is_cell", dD 13 "are_cells_in", dD 15 "back_of", dD 16 "trimmed", dD 17 "value_in", dD 18 "sum_in", dD 19 "scaled_in", dD 20 "product_in", dD 21 "none_in", dD 22 "through_in", dD 23 "is_ascending_within", dD 33 "text_in", dD 34 "cells_told", dD 35 "window_at", dD 36 "windows_found", dD 37 "is_text", dD 38 "require_text", dD 44 "poly_of", dD 45 "cells_of", dD 46 "text_of", dD 47 "is_frame_of", dD 48 "found_in", dD 50 "is_body_form", dD 51 "require_body_form", dD 52 "require_indices", dD 53 "require_body_and_indices", dD 54 "made_frame", dD 55 "frame_cells", dD 56 "told_frame", dD 57 "found_frames", dD 58 "bodies_in", dD 59 "agreeing", dD 60 "other_body", dD 61 "is_other_body", dD 62 "spliced", dD 64 "_law_churn", dD 65 "_law_ladle", dD 66 "_law_spoon", dD 67 "_law_met", dD 68 "_law_bodies_right", dD 69 "_law_texts_right", dD 70 "law"]
def fa : List He.Fa := [.glo "is_whole", .glo "is_within", .glo "require_within", .glo "is_cell", .glo "are_cells_in", .glo "back_of", .glo "trimmed", .glo "value_in", .glo "sum_in", .glo "scaled_in", .glo "product_in", .glo "none_in", .glo "through_in", .glo "is_ascending_within", .glo "text_in", .glo "cells_told", .glo "window_at", .glo "windows_found", .glo "is_text", .glo "require_text", .glo "poly_of", .glo "cells_of", .glo "text_of", .glo "is_frame_of", .glo "found_in", .glo "is_body_form", .glo "require_body_form", .glo "require_indices", .glo "require_body_and_indices", .glo "made_frame", .glo "frame_cells", .glo "told_frame", .glo "found_frames", .glo "bodies_in", .glo "agreeing", .glo "other_body", .glo "is_other_body", .glo "spliced", .glo "_law_churn", .glo "_law_ladle", .glo "_law_spoon", .glo "_law_met", .glo "_law_bodies_right", .glo "_law_texts_right", .glo "law", .free "abs", .free "all", .free "bool", .free "enumerate", .free "int", .free "isinstance", .free "len", .free "max", .free "min", .free "range", .free "repr", .free "sorted", .free "str", .free "super", .free "tuple", .free "zip", .str "BEGIN" "#", .int "BODY_CELLS" (20), .int "DIGITS" (3), .str "END" ";", .str "FIGURES" "0123456789", .int "FRAME_CELLS" (40), .str "GREATEST_SIGN" "~", .str "LEAST_SIGN" " ", .int "MAX_CELL" (996), .int "MOST_ALIKE" (19), .int "MOST_SIGNS" (60000), .int "PRIME" (997), .int "WINDOW_SIGNS" (122), .glo "InvalidText", .glo "InvalidBody", .glo "InvalidOperation", .glo "InvalidNumber", .exc "InvalidText", .exc "InvalidBody", .exc "InvalidOperation"]
def ts : List He.Tab := []
def tf : List He.Defn := [("_law_bodies_right", none), ("_law_texts_right", none), ("law", none)]
def clsN : List Str := ["InvalidText", "InvalidBody", "InvalidOperation", "InvalidNumber"]
def clN : List Str := ["InvalidBody", "InvalidText", "InvalidOperation", "InvalidNumber"]
def fnsN : List Str := ["other_body", "agreeing", "frame_cells", "made_frame", "bodies_in", "found_frames", "told_frame"]
def fileM : Str := PR.main.file
theorem tmem {K : PySem.W.Frag} {p : He.Defn} (h : p ∈ tf) : He.cT K p ∈ tf.map (He.cT K) := List.mem_map.mpr ⟨p, h, rfl⟩
structure Gs (mg : Str → Option Value) : Prop where
  b_abs : mg "abs" = none
  b_all : mg "all" = none
  b_bool : mg "bool" = none
  b_enumerate : mg "enumerate" = none
  b_int : mg "int" = none
  b_isinstance : mg "isinstance" = none
  b_len : mg "len" = none
  b_max : mg "max" = none
  b_min : mg "min" = none
  b_range : mg "range" = none
  b_repr : mg "repr" = none
  b_sorted : mg "sorted" = none
  b_str : mg "str" = none
  b_super : mg "super" = none
  b_tuple : mg "tuple" = none
  b_zip : mg "zip" = none
  BEGIN : ∃ t, mg "BEGIN" = some (.str "#" t)
  BODY_CELLS : ∃ t, mg "BODY_CELLS" = some (.int (20) t)
  DIGITS : ∃ t, mg "DIGITS" = some (.int (3) t)
  END : ∃ t, mg "END" = some (.str ";" t)
  FIGURES : ∃ t, mg "FIGURES" = some (.str "0123456789" t)
  FRAME_CELLS : ∃ t, mg "FRAME_CELLS" = some (.int (40) t)
  GREATEST_SIGN : ∃ t, mg "GREATEST_SIGN" = some (.str "~" t)
  LEAST_SIGN : ∃ t, mg "LEAST_SIGN" = some (.str " " t)
  MAX_CELL : ∃ t, mg "MAX_CELL" = some (.int (996) t)
  MOST_ALIKE : ∃ t, mg "MOST_ALIKE" = some (.int (19) t)
  MOST_SIGNS : ∃ t, mg "MOST_SIGNS" = some (.int (60000) t)
  PRIME : ∃ t, mg "PRIME" = some (.int (997) t)
  WINDOW_SIGNS : ∃ t, mg "WINDOW_SIGNS" = some (.int (122) t)
structure Wk (P : Program) (w : World) (mg : Str → Option Value) (base : Heap) (W : Wd) : Prop where
  g : Gs mg
  def_ : ∀ (i : Nat) (d : He.DefD), fn[i]? = some d → ∃ fd, FunD W.K d.name d.qual d.params d.body d.scope (d.dvs W.K) (d.kws W.K) (He.fAd W.K d.at_) fd
  x_0 : mg "is_whole" = some (.ref (He.ga W.K "is_whole"))
  x_1 : mg "is_within" = some (.ref (He.ga W.K "is_within"))
  x_2 : mg "require_within" = some (.ref (He.ga W.K "require_within"))
  x_3 : mg "is_cell" = some (.ref (He.ga W.K "is_cell"))
  x_4 : mg "are_cells_in" = some (.ref (He.ga W.K "are_cells_in"))
  x_5 : mg "back_of" = some (.ref (He.ga W.K "back_of"))
  x_6 : mg "trimmed" = some (.ref (He.ga W.K "trimmed"))
  x_7 : mg "value_in" = some (.ref (He.ga W.K "value_in"))
  x_8 : mg "sum_in" = some (.ref (He.ga W.K "sum_in"))
  x_9 : mg "scaled_in" = some (.ref (He.ga W.K "scaled_in"))
  x_10 : mg "product_in" = some (.ref (He.ga W.K "product_in"))
  x_11 : mg "none_in" = some (.ref (He.ga W.K "none_in"))
  x_12 : mg "through_in" = some (.ref (He.ga W.K "through_in"))
  x_13 : mg "is_ascending_within" = some (.ref (He.ga W.K "is_ascending_within"))
  x_14 : mg "text_in" = some (.ref (He.ga W.K "text_in"))
  x_15 : mg "cells_told" = some (.ref (He.ga W.K "cells_told"))
  x_16 : mg "window_at" = some (.ref (He.ga W.K "window_at"))
  x_17 : mg "windows_found" = some (.ref (He.ga W.K "windows_found"))
  x_18 : mg "is_text" = some (.ref (He.ga W.K "is_text"))
  x_19 : mg "require_text" = some (.ref (He.ga W.K "require_text"))
  x_20 : mg "poly_of" = some (.ref (He.ga W.K "poly_of"))
  x_21 : mg "cells_of" = some (.ref (He.ga W.K "cells_of"))
  x_22 : mg "text_of" = some (.ref (He.ga W.K "text_of"))
  x_23 : mg "is_frame_of" = some (.ref (He.ga W.K "is_frame_of"))
  x_24 : mg "found_in" = some (.ref (He.ga W.K "found_in"))
  x_25 : mg "is_body_form" = some (.ref (He.ga W.K "is_body_form"))
  x_26 : mg "require_body_form" = some (.ref (He.ga W.K "require_body_form"))
  x_27 : mg "require_indices" = some (.ref (He.ga W.K "require_indices"))
  x_28 : mg "require_body_and_indices" = some (.ref (He.ga W.K "require_body_and_indices"))
  x_29 : mg "made_frame" = some (.ref (He.ga W.K "made_frame"))
  x_30 : mg "frame_cells" = some (.ref (He.ga W.K "frame_cells"))
  x_31 : mg "told_frame" = some (.ref (He.ga W.K "told_frame"))
  x_32 : mg "found_frames" = some (.ref (He.ga W.K "found_frames"))
  x_33 : mg "bodies_in" = some (.ref (He.ga W.K "bodies_in"))
  x_34 : mg "agreeing" = some (.ref (He.ga W.K "agreeing"))
  x_35 : mg "other_body" = some (.ref (He.ga W.K "other_body"))
  x_36 : mg "is_other_body" = some (.ref (He.ga W.K "is_other_body"))
  x_37 : mg "spliced" = some (.ref (He.ga W.K "spliced"))
  x_38 : mg "_law_churn" = some (.ref (He.ga W.K "_law_churn"))
  x_39 : mg "_law_ladle" = some (.ref (He.ga W.K "_law_ladle"))
  x_40 : mg "_law_spoon" = some (.ref (He.ga W.K "_law_spoon"))
  x_41 : mg "_law_met" = some (.ref (He.ga W.K "_law_met"))
  x_42 : mg "_law_bodies_right" = some (.ref (He.ga W.K "_law_bodies_right"))
  x_43 : mg "_law_texts_right" = some (.ref (He.ga W.K "_law_texts_right"))
  x_44 : mg "law" = some (.ref (He.ga W.K "law"))
  hT : W.T = tabT W.K tf
  hn : nodB W.K tf = true
  hca : W.ca = caT W.K clsN
  hfa : W.fa = faT W.K fnsN
  tb : ∀ p ∈ tf.map (He.cT W.K), LamX.TabB base mg p.1 p.2
  xm : tabB W.K clsN clN tabM = true
  file : P.main.file = fileM
  htop : (P.main.scope.names.lookup ("super" : Str)).isSome = false
  c_InvalidText : mg "InvalidText" = some (.ref (He.ga W.K "InvalidText"))
  c_InvalidBody : mg "InvalidBody" = some (.ref (He.ga W.K "InvalidBody"))
  c_InvalidOperation : mg "InvalidOperation" = some (.ref (He.ga W.K "InvalidOperation"))
  c_InvalidNumber : mg "InvalidNumber" = some (.ref (He.ga W.K "InvalidNumber"))
  o_InvalidText : OwnS W.K "InvalidText"
  o_InvalidBody : OwnS W.K "InvalidBody"
  o_InvalidOperation : OwnS W.K "InvalidOperation"
  o_InvalidNumber : OwnX W.K "InvalidNumber" "IndexError" "IndexError.__new__" "IndexError.__init__" [.type "IndexError", .type "LookupError", .type "Exception", .type "BaseException", .type "object"] "given" fileM
  t_PLACES : ∃ u, mg "PLACES" = some u ∧ litB W.K (.tup [(.int (1)), (.int (4)), (.int (9)), (.int (16)), (.int (25)), (.int (36)), (.int (49)), (.int (64)), (.int (81)), (.int (100)), (.int (121)), (.int (144)), (.int (169)), (.int (196)), (.int (225)), (.int (256)), (.int (289)), (.int (324)), (.int (361)), (.int (400)), (.int (441)), (.int (484)), (.int (529)), (.int (576)), (.int (625)), (.int (676)), (.int (729)), (.int (784)), (.int (841)), (.int (900)), (.int (961)), (.int (27)), (.int (92)), (.int (159)), (.int (228)), (.int (299)), (.int (372)), (.int (447)), (.int (524)), (.int (603))]) u = true
abbrev sc_0 : Scope := defScope (top 9)
abbrev sc_1 : Scope := defScope (top 10)
abbrev sc_2 : Scope := defScope (top 11)
abbrev sc_3 : Scope := defScope (top 12)
abbrev sc_4 : Scope := defScope (top 13)
abbrev sc_5 : Scope := defScope (top 15)
abbrev sc_6 : Scope := defScope (top 16)
abbrev sc_7 : Scope := defScope (top 17)
abbrev sc_8 : Scope := defScope (top 18)
abbrev sc_9 : Scope := defScope (top 19)
abbrev sc_10 : Scope := defScope (top 20)
abbrev sc_11 : Scope := defScope (top 21)
abbrev sc_12 : Scope := defScope (top 22)
abbrev sc_13 : Scope := defScope (top 23)
abbrev sc_14 : Scope := defScope (top 33)
abbrev sc_15 : Scope := defScope (top 34)
abbrev sc_16 : Scope := defScope (top 35)
abbrev sc_17 : Scope := defScope (top 36)
abbrev sc_18 : Scope := defScope (top 37)
abbrev sc_19 : Scope := defScope (top 38)
abbrev sc_20 : Scope := defScope (top 44)
abbrev sc_21 : Scope := defScope (top 45)
abbrev sc_22 : Scope := defScope (top 46)
abbrev sc_23 : Scope := defScope (top 47)
abbrev sc_24 : Scope := defScope (top 48)
abbrev sc_25 : Scope := defScope (top 50)
abbrev sc_26 : Scope := defScope (top 51)
abbrev sc_27 : Scope := defScope (top 52)
abbrev sc_28 : Scope := defScope (top 53)
abbrev sc_29 : Scope := defScope (top 54)
abbrev sc_30 : Scope := defScope (top 55)
abbrev sc_31 : Scope := defScope (top 56)
abbrev sc_32 : Scope := defScope (top 57)
abbrev sc_33 : Scope := defScope (top 58)
abbrev sc_34 : Scope := defScope (top 59)
abbrev sc_35 : Scope := defScope (top 60)
abbrev sc_36 : Scope := defScope (top 61)
abbrev sc_37 : Scope := defScope (top 62)
abbrev sc_38 : Scope := defScope (top 64)
abbrev sc_39 : Scope := defScope (top 65)
abbrev sc_40 : Scope := defScope (top 66)
abbrev sc_41 : Scope := defScope (top 67)
abbrev sc_42 : Scope := defScope (top 68)
abbrev sc_43 : Scope := defScope (top 69)
abbrev sc_44 : Scope := defScope (top 70)
theorem bt_abs : bootBuiltins "abs" = some (.builtin "abs") := by decide +kernel
theorem nn_abs : ("abs" : Str) ≠ "__name__" := by decide +kernel
theorem bt_all : bootBuiltins "all" = some (.builtin "all") := by decide +kernel
theorem nn_all : ("all" : Str) ≠ "__name__" := by decide +kernel
theorem bt_bool : bootBuiltins "bool" = some (.type "bool") := by decide +kernel
theorem nn_bool : ("bool" : Str) ≠ "__name__" := by decide +kernel
theorem bt_enumerate : bootBuiltins "enumerate" = some (.type "enumerate") := by decide +kernel
theorem nn_enumerate : ("enumerate" : Str) ≠ "__name__" := by decide +kernel
theorem bt_int : bootBuiltins "int" = some (.type "int") := by decide +kernel
theorem nn_int : ("int" : Str) ≠ "__name__" := by decide +kernel
theorem bt_isinstance : bootBuiltins "isinstance" = some (.builtin "isinstance") := by decide +kernel
theorem nn_isinstance : ("isinstance" : Str) ≠ "__name__" := by decide +kernel
theorem bt_len : bootBuiltins "len" = some (.builtin "len") := by decide +kernel
theorem nn_len : ("len" : Str) ≠ "__name__" := by decide +kernel
theorem bt_max : bootBuiltins "max" = some (.builtin "max") := by decide +kernel
theorem nn_max : ("max" : Str) ≠ "__name__" := by decide +kernel
theorem bt_min : bootBuiltins "min" = some (.builtin "min") := by decide +kernel
theorem nn_min : ("min" : Str) ≠ "__name__" := by decide +kernel
theorem bt_range : bootBuiltins "range" = some (.type "range") := by decide +kernel
theorem nn_range : ("range" : Str) ≠ "__name__" := by decide +kernel
theorem bt_repr : bootBuiltins "repr" = some (.builtin "repr") := by decide +kernel
theorem nn_repr : ("repr" : Str) ≠ "__name__" := by decide +kernel
theorem bt_sorted : bootBuiltins "sorted" = some (.builtin "sorted") := by decide +kernel
theorem nn_sorted : ("sorted" : Str) ≠ "__name__" := by decide +kernel
theorem bt_str : bootBuiltins "str" = some (.type "str") := by decide +kernel
theorem nn_str : ("str" : Str) ≠ "__name__" := by decide +kernel
theorem bt_tuple : bootBuiltins "tuple" = some (.type "tuple") := by decide +kernel
theorem nn_tuple : ("tuple" : Str) ≠ "__name__" := by decide +kernel
theorem bt_zip : bootBuiltins "zip" = some (.type "zip") := by decide +kernel
theorem nn_zip : ("zip" : Str) ≠ "__name__" := by decide +kernel
theorem lk_sc_0_value : sc_0.names.lookup ("value" : Str) = some (NameKind.local : NameKind) := by decide +kernel
theorem lk_sc_0_isinstance : sc_0.names.lookup ("isinstance" : Str) = some (NameKind.globalImplicit : NameKind) := by decide +kernel
theorem lk_sc_0_int : sc_0.names.lookup ("int" : Str) = some (NameKind.globalImplicit : NameKind) := by decide +kernel
theorem lk_sc_0_bool : sc_0.names.lookup ("bool" : Str) = some (NameKind.globalImplicit : NameKind) := by decide +kernel
theorem lk_sc_1_value : sc_1.names.lookup ("value" : Str) = some (NameKind.local : NameKind) := by decide +kernel
theorem lk_sc_1_is_whole : sc_1.names.lookup ("is_whole" : Str) = some (NameKind.globalImplicit : NameKind) := by decide +kernel
theorem lk_sc_1_least : sc_1.names.lookup ("least" : Str) = some (NameKind.local : NameKind) := by decide +kernel
theorem lk_sc_1_greatest : sc_1.names.lookup ("greatest" : Str) = some (NameKind.local : NameKind) := by decide +kernel
theorem lk_sc_2_greatest : sc_2.names.lookup ("greatest" : Str) = some (NameKind.local : NameKind) := by decide +kernel
theorem lk_sc_2_least : sc_2.names.lookup ("least" : Str) = some (NameKind.local : NameKind) := by decide +kernel
theorem lk_sc_2_value : sc_2.names.lookup ("value" : Str) = some (NameKind.local : NameKind) := by decide +kernel
theorem lk_sc_2_is_within : sc_2.names.lookup ("is_within" : Str) = some (NameKind.globalImplicit : NameKind) := by decide +kernel
theorem lk_sc_2_InvalidNumber : sc_2.names.lookup ("InvalidNumber" : Str) = some (NameKind.globalImplicit : NameKind) := by decide +kernel
theorem lk_sc_3_MAX_CELL : sc_3.names.lookup ("MAX_CELL" : Str) = some (NameKind.globalImplicit : NameKind) := by decide +kernel
theorem lk_sc_3_value : sc_3.names.lookup ("value" : Str) = some (NameKind.local : NameKind) := by decide +kernel
theorem lk_sc_3_is_within : sc_3.names.lookup ("is_within" : Str) = some (NameKind.globalImplicit : NameKind) := by decide +kernel
theorem lk_sc_4_value : sc_4.names.lookup ("value" : Str) = some (NameKind.local : NameKind) := by decide +kernel
theorem lk_sc_4_all : sc_4.names.lookup ("all" : Str) = some (NameKind.globalImplicit : NameKind) := by decide +kernel
theorem lk_sc_4_isinstance : sc_4.names.lookup ("isinstance" : Str) = some (NameKind.globalImplicit : NameKind) := by decide +kernel
theorem lk_sc_4_tuple : sc_4.names.lookup ("tuple" : Str) = some (NameKind.globalImplicit : NameKind) := by decide +kernel
theorem lk_sc_4_least : sc_4.names.lookup ("least" : Str) = some (NameKind.local : NameKind) := by decide +kernel
theorem lk_sc_4_len : sc_4.names.lookup ("len" : Str) = some (NameKind.globalImplicit : NameKind) := by decide +kernel
theorem lk_sc_4_most : sc_4.names.lookup ("most" : Str) = some (NameKind.local : NameKind) := by decide +kernel
theorem lk_sc_5_found : sc_5.names.lookup ("found" : Str) = some (NameKind.local : NameKind) := by decide +kernel
theorem lk_sc_5_left : sc_5.names.lookup ("left" : Str) = some (NameKind.local : NameKind) := by decide +kernel
theorem lk_sc_5_here : sc_5.names.lookup ("here" : Str) = some (NameKind.local : NameKind) := by decide +kernel
theorem lk_sc_5_PRIME : sc_5.names.lookup ("PRIME" : Str) = some (NameKind.globalImplicit : NameKind) := by decide +kernel
theorem lk_sc_5_cell : sc_5.names.lookup ("cell" : Str) = some (NameKind.local : NameKind) := by decide +kernel
theorem lk_sc_6_cells : sc_6.names.lookup ("cells" : Str) = some (NameKind.local : NameKind) := by decide +kernel
theorem lk_sc_6_size : sc_6.names.lookup ("size" : Str) = some (NameKind.local : NameKind) := by decide +kernel
theorem lk_sc_6_tuple : sc_6.names.lookup ("tuple" : Str) = some (NameKind.globalImplicit : NameKind) := by decide +kernel
theorem lk_sc_6_len : sc_6.names.lookup ("len" : Str) = some (NameKind.globalImplicit : NameKind) := by decide +kernel
theorem lk_sc_7_found : sc_7.names.lookup ("found" : Str) = some (NameKind.local : NameKind) := by decide +kernel
theorem lk_sc_7_poly : sc_7.names.lookup ("poly" : Str) = some (NameKind.local : NameKind) := by decide +kernel
theorem lk_sc_7_number : sc_7.names.lookup ("number" : Str) = some (NameKind.local : NameKind) := by decide +kernel
theorem lk_sc_7_cell : sc_7.names.lookup ("cell" : Str) = some (NameKind.local : NameKind) := by decide +kernel
theorem lk_sc_7_PRIME : sc_7.names.lookup ("PRIME" : Str) = some (NameKind.globalImplicit : NameKind) := by decide +kernel
theorem lk_sc_8_right : sc_8.names.lookup ("right" : Str) = some (NameKind.local : NameKind) := by decide +kernel
theorem lk_sc_8_left : sc_8.names.lookup ("left" : Str) = some (NameKind.local : NameKind) := by decide +kernel
theorem lk_sc_8_zip : sc_8.names.lookup ("zip" : Str) = some (NameKind.globalImplicit : NameKind) := by decide +kernel
theorem lk_sc_8_trimmed : sc_8.names.lookup ("trimmed" : Str) = some (NameKind.globalImplicit : NameKind) := by decide +kernel
theorem lk_sc_8_other : sc_8.names.lookup ("other" : Str) = some (NameKind.local : NameKind) := by decide +kernel
theorem lk_sc_8_one : sc_8.names.lookup ("one" : Str) = some (NameKind.local : NameKind) := by decide +kernel
theorem lk_sc_8_len : sc_8.names.lookup ("len" : Str) = some (NameKind.globalImplicit : NameKind) := by decide +kernel
theorem lk_sc_8_max : sc_8.names.lookup ("max" : Str) = some (NameKind.globalImplicit : NameKind) := by decide +kernel
theorem lk_sc_8_size : sc_8.names.lookup ("size" : Str) = some (NameKind.cell : NameKind) := by decide +kernel
theorem lk_sc_9_poly : sc_9.names.lookup ("poly" : Str) = some (NameKind.local : NameKind) := by decide +kernel
theorem lk_sc_9_trimmed : sc_9.names.lookup ("trimmed" : Str) = some (NameKind.globalImplicit : NameKind) := by decide +kernel
theorem lk_sc_10_found : sc_10.names.lookup ("found" : Str) = some (NameKind.local : NameKind) := by decide +kernel
theorem lk_sc_10_trimmed : sc_10.names.lookup ("trimmed" : Str) = some (NameKind.globalImplicit : NameKind) := by decide +kernel
theorem lk_sc_10_one : sc_10.names.lookup ("one" : Str) = some (NameKind.local : NameKind) := by decide +kernel
theorem lk_sc_10_enumerate : sc_10.names.lookup ("enumerate" : Str) = some (NameKind.globalImplicit : NameKind) := by decide +kernel
theorem lk_sc_10_at : sc_10.names.lookup ("at" : Str) = some (NameKind.local : NameKind) := by decide +kernel
theorem lk_sc_10_first : sc_10.names.lookup ("first" : Str) = some (NameKind.local : NameKind) := by decide +kernel
theorem lk_sc_10_other : sc_10.names.lookup ("other" : Str) = some (NameKind.local : NameKind) := by decide +kernel
theorem lk_sc_10_to : sc_10.names.lookup ("to" : Str) = some (NameKind.local : NameKind) := by decide +kernel
theorem lk_sc_10_second : sc_10.names.lookup ("second" : Str) = some (NameKind.local : NameKind) := by decide +kernel
theorem lk_sc_10_PRIME : sc_10.names.lookup ("PRIME" : Str) = some (NameKind.globalImplicit : NameKind) := by decide +kernel
theorem lk_sc_10_len : sc_10.names.lookup ("len" : Str) = some (NameKind.globalImplicit : NameKind) := by decide +kernel
theorem lk_sc_11_found : sc_11.names.lookup ("found" : Str) = some (NameKind.local : NameKind) := by decide +kernel
theorem lk_sc_11_places : sc_11.names.lookup ("places" : Str) = some (NameKind.local : NameKind) := by decide +kernel
theorem lk_sc_11_place : sc_11.names.lookup ("place" : Str) = some (NameKind.local : NameKind) := by decide +kernel
theorem lk_sc_11_PRIME : sc_11.names.lookup ("PRIME" : Str) = some (NameKind.globalImplicit : NameKind) := by decide +kernel
theorem lk_sc_11_product_in : sc_11.names.lookup ("product_in" : Str) = some (NameKind.globalImplicit : NameKind) := by decide +kernel
theorem lk_sc_12_found : sc_12.names.lookup ("found" : Str) = some (NameKind.local : NameKind) := by decide +kernel
theorem lk_sc_12_points : sc_12.names.lookup ("points" : Str) = some (NameKind.local : NameKind) := by decide +kernel
theorem lk_sc_12_place : sc_12.names.lookup ("place" : Str) = some (NameKind.local : NameKind) := by decide +kernel
theorem lk_sc_12_value : sc_12.names.lookup ("value" : Str) = some (NameKind.local : NameKind) := by decide +kernel
theorem lk_sc_12_PRIME : sc_12.names.lookup ("PRIME" : Str) = some (NameKind.globalImplicit : NameKind) := by decide +kernel
theorem lk_sc_12_none : sc_12.names.lookup ("none" : Str) = some (NameKind.local : NameKind) := by decide +kernel
theorem lk_sc_12_product_in : sc_12.names.lookup ("product_in" : Str) = some (NameKind.globalImplicit : NameKind) := by decide +kernel
theorem lk_sc_12_lacking : sc_12.names.lookup ("lacking" : Str) = some (NameKind.local : NameKind) := by decide +kernel
theorem lk_sc_12_scaled_in : sc_12.names.lookup ("scaled_in" : Str) = some (NameKind.globalImplicit : NameKind) := by decide +kernel
theorem lk_sc_12_sum_in : sc_12.names.lookup ("sum_in" : Str) = some (NameKind.globalImplicit : NameKind) := by decide +kernel
theorem lk_sc_12_value_in : sc_12.names.lookup ("value_in" : Str) = some (NameKind.globalImplicit : NameKind) := by decide +kernel
theorem lk_sc_12_back_of : sc_12.names.lookup ("back_of" : Str) = some (NameKind.globalImplicit : NameKind) := by decide +kernel
theorem lk_sc_13_value : sc_13.names.lookup ("value" : Str) = some (NameKind.local : NameKind) := by decide +kernel
theorem lk_sc_13_zip : sc_13.names.lookup ("zip" : Str) = some (NameKind.globalImplicit : NameKind) := by decide +kernel
theorem lk_sc_13_all : sc_13.names.lookup ("all" : Str) = some (NameKind.globalImplicit : NameKind) := by decide +kernel
theorem lk_sc_13_isinstance : sc_13.names.lookup ("isinstance" : Str) = some (NameKind.globalImplicit : NameKind) := by decide +kernel
theorem lk_sc_13_tuple : sc_13.names.lookup ("tuple" : Str) = some (NameKind.globalImplicit : NameKind) := by decide +kernel
theorem lk_sc_14_cells : sc_14.names.lookup ("cells" : Str) = some (NameKind.local : NameKind) := by decide +kernel
theorem lk_sc_15_cells : sc_15.names.lookup ("cells" : Str) = some (NameKind.local : NameKind) := by decide +kernel
theorem lk_sc_15_all : sc_15.names.lookup ("all" : Str) = some (NameKind.globalImplicit : NameKind) := by decide +kernel
theorem lk_sc_15_DIGITS : sc_15.names.lookup ("DIGITS" : Str) = some (NameKind.globalImplicit : NameKind) := by decide +kernel
theorem lk_sc_15_text : sc_15.names.lookup ("text" : Str) = some (NameKind.cell : NameKind) := by decide +kernel
theorem lk_sc_15_len : sc_15.names.lookup ("len" : Str) = some (NameKind.globalImplicit : NameKind) := by decide +kernel
theorem lk_sc_15_range : sc_15.names.lookup ("range" : Str) = some (NameKind.globalImplicit : NameKind) := by decide +kernel
theorem lk_sc_15_tuple : sc_15.names.lookup ("tuple" : Str) = some (NameKind.globalImplicit : NameKind) := by decide +kernel
theorem lk_sc_16_window : sc_16.names.lookup ("window" : Str) = some (NameKind.local : NameKind) := by decide +kernel
theorem lk_sc_16_cells_told : sc_16.names.lookup ("cells_told" : Str) = some (NameKind.globalImplicit : NameKind) := by decide +kernel
theorem lk_sc_16_len : sc_16.names.lookup ("len" : Str) = some (NameKind.globalImplicit : NameKind) := by decide +kernel
theorem lk_sc_16_WINDOW_SIGNS : sc_16.names.lookup ("WINDOW_SIGNS" : Str) = some (NameKind.globalImplicit : NameKind) := by decide +kernel
theorem lk_sc_16_BEGIN : sc_16.names.lookup ("BEGIN" : Str) = some (NameKind.globalImplicit : NameKind) := by decide +kernel
theorem lk_sc_16_END : sc_16.names.lookup ("END" : Str) = some (NameKind.globalImplicit : NameKind) := by decide +kernel
theorem lk_sc_16_text : sc_16.names.lookup ("text" : Str) = some (NameKind.local : NameKind) := by decide +kernel
theorem lk_sc_16_place : sc_16.names.lookup ("place" : Str) = some (NameKind.local : NameKind) := by decide +kernel
theorem lk_sc_17_found : sc_17.names.lookup ("found" : Str) = some (NameKind.local : NameKind) := by decide +kernel
theorem lk_sc_17_place : sc_17.names.lookup ("place" : Str) = some (NameKind.local : NameKind) := by decide +kernel
theorem lk_sc_17_text : sc_17.names.lookup ("text" : Str) = some (NameKind.local : NameKind) := by decide +kernel
theorem lk_sc_17_BEGIN : sc_17.names.lookup ("BEGIN" : Str) = some (NameKind.globalImplicit : NameKind) := by decide +kernel
theorem lk_sc_17_cells : sc_17.names.lookup ("cells" : Str) = some (NameKind.local : NameKind) := by decide +kernel
theorem lk_sc_17_window_at : sc_17.names.lookup ("window_at" : Str) = some (NameKind.globalImplicit : NameKind) := by decide +kernel
theorem lk_sc_18_value : sc_18.names.lookup ("value" : Str) = some (NameKind.local : NameKind) := by decide +kernel
theorem lk_sc_18_all : sc_18.names.lookup ("all" : Str) = some (NameKind.globalImplicit : NameKind) := by decide +kernel
theorem lk_sc_18_isinstance : sc_18.names.lookup ("isinstance" : Str) = some (NameKind.globalImplicit : NameKind) := by decide +kernel
theorem lk_sc_18_str : sc_18.names.lookup ("str" : Str) = some (NameKind.globalImplicit : NameKind) := by decide +kernel
theorem lk_sc_18_len : sc_18.names.lookup ("len" : Str) = some (NameKind.globalImplicit : NameKind) := by decide +kernel
theorem lk_sc_18_MOST_SIGNS : sc_18.names.lookup ("MOST_SIGNS" : Str) = some (NameKind.globalImplicit : NameKind) := by decide +kernel
theorem lk_sc_19_value : sc_19.names.lookup ("value" : Str) = some (NameKind.local : NameKind) := by decide +kernel
theorem lk_sc_19_is_text : sc_19.names.lookup ("is_text" : Str) = some (NameKind.globalImplicit : NameKind) := by decide +kernel
theorem lk_sc_19_InvalidText : sc_19.names.lookup ("InvalidText" : Str) = some (NameKind.globalImplicit : NameKind) := by decide +kernel
theorem lk_sc_20_body : sc_20.names.lookup ("body" : Str) = some (NameKind.local : NameKind) := by decide +kernel
theorem lk_sc_20_PLACES : sc_20.names.lookup ("PLACES" : Str) = some (NameKind.globalImplicit : NameKind) := by decide +kernel
theorem lk_sc_20_BODY_CELLS : sc_20.names.lookup ("BODY_CELLS" : Str) = some (NameKind.globalImplicit : NameKind) := by decide +kernel
theorem lk_sc_20_tuple : sc_20.names.lookup ("tuple" : Str) = some (NameKind.globalImplicit : NameKind) := by decide +kernel
theorem lk_sc_20_zip : sc_20.names.lookup ("zip" : Str) = some (NameKind.globalImplicit : NameKind) := by decide +kernel
theorem lk_sc_20_through_in : sc_20.names.lookup ("through_in" : Str) = some (NameKind.globalImplicit : NameKind) := by decide +kernel
theorem lk_sc_21_PLACES : sc_21.names.lookup ("PLACES" : Str) = some (NameKind.globalImplicit : NameKind) := by decide +kernel
theorem lk_sc_21_BODY_CELLS : sc_21.names.lookup ("BODY_CELLS" : Str) = some (NameKind.globalImplicit : NameKind) := by decide +kernel
theorem lk_sc_21_body : sc_21.names.lookup ("body" : Str) = some (NameKind.local : NameKind) := by decide +kernel
theorem lk_sc_21_poly_of : sc_21.names.lookup ("poly_of" : Str) = some (NameKind.globalImplicit : NameKind) := by decide +kernel
theorem lk_sc_21_poly : sc_21.names.lookup ("poly" : Str) = some (NameKind.cell : NameKind) := by decide +kernel
theorem lk_sc_22_BEGIN : sc_22.names.lookup ("BEGIN" : Str) = some (NameKind.globalImplicit : NameKind) := by decide +kernel
theorem lk_sc_22_body : sc_22.names.lookup ("body" : Str) = some (NameKind.local : NameKind) := by decide +kernel
theorem lk_sc_22_cells_of : sc_22.names.lookup ("cells_of" : Str) = some (NameKind.globalImplicit : NameKind) := by decide +kernel
theorem lk_sc_22_text_in : sc_22.names.lookup ("text_in" : Str) = some (NameKind.globalImplicit : NameKind) := by decide +kernel
theorem lk_sc_22_END : sc_22.names.lookup ("END" : Str) = some (NameKind.globalImplicit : NameKind) := by decide +kernel
theorem lk_sc_23_cells : sc_23.names.lookup ("cells" : Str) = some (NameKind.local : NameKind) := by decide +kernel
theorem lk_sc_24_text : sc_24.names.lookup ("text" : Str) = some (NameKind.local : NameKind) := by decide +kernel
theorem lk_sc_24_windows_found : sc_24.names.lookup ("windows_found" : Str) = some (NameKind.globalImplicit : NameKind) := by decide +kernel
theorem lk_sc_25_BODY_CELLS : sc_25.names.lookup ("BODY_CELLS" : Str) = some (NameKind.globalImplicit : NameKind) := by decide +kernel
theorem lk_sc_25_value : sc_25.names.lookup ("value" : Str) = some (NameKind.local : NameKind) := by decide +kernel
theorem lk_sc_25_are_cells_in : sc_25.names.lookup ("are_cells_in" : Str) = some (NameKind.globalImplicit : NameKind) := by decide +kernel
theorem lk_sc_26_value : sc_26.names.lookup ("value" : Str) = some (NameKind.local : NameKind) := by decide +kernel
theorem lk_sc_26_is_body_form : sc_26.names.lookup ("is_body_form" : Str) = some (NameKind.globalImplicit : NameKind) := by decide +kernel
theorem lk_sc_26_InvalidBody : sc_26.names.lookup ("InvalidBody" : Str) = some (NameKind.globalImplicit : NameKind) := by decide +kernel
theorem lk_sc_27_FRAME_CELLS : sc_27.names.lookup ("FRAME_CELLS" : Str) = some (NameKind.globalImplicit : NameKind) := by decide +kernel
theorem lk_sc_27_value : sc_27.names.lookup ("value" : Str) = some (NameKind.local : NameKind) := by decide +kernel
theorem lk_sc_27_is_ascending_within : sc_27.names.lookup ("is_ascending_within" : Str) = some (NameKind.globalImplicit : NameKind) := by decide +kernel
theorem lk_sc_27_InvalidOperation : sc_27.names.lookup ("InvalidOperation" : Str) = some (NameKind.globalImplicit : NameKind) := by decide +kernel
theorem lk_sc_28_indices : sc_28.names.lookup ("indices" : Str) = some (NameKind.local : NameKind) := by decide +kernel
theorem lk_sc_28_len : sc_28.names.lookup ("len" : Str) = some (NameKind.globalImplicit : NameKind) := by decide +kernel
theorem lk_sc_28_MOST_ALIKE : sc_28.names.lookup ("MOST_ALIKE" : Str) = some (NameKind.globalImplicit : NameKind) := by decide +kernel
theorem lk_sc_28_InvalidOperation : sc_28.names.lookup ("InvalidOperation" : Str) = some (NameKind.globalImplicit : NameKind) := by decide +kernel
theorem lk_sc_28_require_indices : sc_28.names.lookup ("require_indices" : Str) = some (NameKind.globalImplicit : NameKind) := by decide +kernel
theorem lk_sc_28_body : sc_28.names.lookup ("body" : Str) = some (NameKind.local : NameKind) := by decide +kernel
theorem lk_sc_28_require_body_form : sc_28.names.lookup ("require_body_form" : Str) = some (NameKind.globalImplicit : NameKind) := by decide +kernel
theorem lk_sc_29_body : sc_29.names.lookup ("body" : Str) = some (NameKind.local : NameKind) := by decide +kernel
theorem lk_sc_29_require_body_form : sc_29.names.lookup ("require_body_form" : Str) = some (NameKind.globalImplicit : NameKind) := by decide +kernel
theorem lk_sc_30_body : sc_30.names.lookup ("body" : Str) = some (NameKind.local : NameKind) := by decide +kernel
theorem lk_sc_30_require_body_form : sc_30.names.lookup ("require_body_form" : Str) = some (NameKind.globalImplicit : NameKind) := by decide +kernel
theorem lk_sc_31_cells : sc_31.names.lookup ("cells" : Str) = some (NameKind.local : NameKind) := by decide +kernel
theorem lk_sc_31_is_frame_of : sc_31.names.lookup ("is_frame_of" : Str) = some (NameKind.globalImplicit : NameKind) := by decide +kernel
theorem lk_sc_31_text : sc_31.names.lookup ("text" : Str) = some (NameKind.local : NameKind) := by decide +kernel
theorem lk_sc_31_len : sc_31.names.lookup ("len" : Str) = some (NameKind.globalImplicit : NameKind) := by decide +kernel
theorem lk_sc_31_WINDOW_SIGNS : sc_31.names.lookup ("WINDOW_SIGNS" : Str) = some (NameKind.globalImplicit : NameKind) := by decide +kernel
theorem lk_sc_31_window_at : sc_31.names.lookup ("window_at" : Str) = some (NameKind.globalImplicit : NameKind) := by decide +kernel
theorem lk_sc_31_require_text : sc_31.names.lookup ("require_text" : Str) = some (NameKind.globalImplicit : NameKind) := by decide +kernel
theorem lk_sc_32_text : sc_32.names.lookup ("text" : Str) = some (NameKind.local : NameKind) := by decide +kernel
theorem lk_sc_32_found_in : sc_32.names.lookup ("found_in" : Str) = some (NameKind.globalImplicit : NameKind) := by decide +kernel
theorem lk_sc_32_tuple : sc_32.names.lookup ("tuple" : Str) = some (NameKind.globalImplicit : NameKind) := by decide +kernel
theorem lk_sc_32_require_text : sc_32.names.lookup ("require_text" : Str) = some (NameKind.globalImplicit : NameKind) := by decide +kernel
theorem lk_sc_33_text : sc_33.names.lookup ("text" : Str) = some (NameKind.local : NameKind) := by decide +kernel
theorem lk_sc_33_found_in : sc_33.names.lookup ("found_in" : Str) = some (NameKind.globalImplicit : NameKind) := by decide +kernel
theorem lk_sc_33_sorted : sc_33.names.lookup ("sorted" : Str) = some (NameKind.globalImplicit : NameKind) := by decide +kernel
theorem lk_sc_33_tuple : sc_33.names.lookup ("tuple" : Str) = some (NameKind.globalImplicit : NameKind) := by decide +kernel
theorem lk_sc_33_require_text : sc_33.names.lookup ("require_text" : Str) = some (NameKind.globalImplicit : NameKind) := by decide +kernel
theorem lk_sc_34_other : sc_34.names.lookup ("other" : Str) = some (NameKind.local : NameKind) := by decide +kernel
theorem lk_sc_34_require_body_form : sc_34.names.lookup ("require_body_form" : Str) = some (NameKind.globalImplicit : NameKind) := by decide +kernel
theorem lk_sc_34_one : sc_34.names.lookup ("one" : Str) = some (NameKind.local : NameKind) := by decide +kernel
theorem lk_sc_35_PLACES : sc_35.names.lookup ("PLACES" : Str) = some (NameKind.globalImplicit : NameKind) := by decide +kernel
theorem lk_sc_35_BODY_CELLS : sc_35.names.lookup ("BODY_CELLS" : Str) = some (NameKind.globalImplicit : NameKind) := by decide +kernel
theorem lk_sc_35_tuple : sc_35.names.lookup ("tuple" : Str) = some (NameKind.globalImplicit : NameKind) := by decide +kernel
theorem lk_sc_35_indices : sc_35.names.lookup ("indices" : Str) = some (NameKind.local : NameKind) := by decide +kernel
theorem lk_sc_35_none_in : sc_35.names.lookup ("none_in" : Str) = some (NameKind.globalImplicit : NameKind) := by decide +kernel
theorem lk_sc_35_body : sc_35.names.lookup ("body" : Str) = some (NameKind.local : NameKind) := by decide +kernel
theorem lk_sc_35_poly_of : sc_35.names.lookup ("poly_of" : Str) = some (NameKind.globalImplicit : NameKind) := by decide +kernel
theorem lk_sc_35_sum_in : sc_35.names.lookup ("sum_in" : Str) = some (NameKind.globalImplicit : NameKind) := by decide +kernel
theorem lk_sc_35_poly : sc_35.names.lookup ("poly" : Str) = some (NameKind.cell : NameKind) := by decide +kernel
theorem lk_sc_35_require_body_and_indices : sc_35.names.lookup ("require_body_and_indices" : Str) = some (NameKind.globalImplicit : NameKind) := by decide +kernel
theorem lk_sc_36_indices : sc_36.names.lookup ("indices" : Str) = some (NameKind.local : NameKind) := by decide +kernel
theorem lk_sc_36_body : sc_36.names.lookup ("body" : Str) = some (NameKind.local : NameKind) := by decide +kernel
theorem lk_sc_36_require_body_and_indices : sc_36.names.lookup ("require_body_and_indices" : Str) = some (NameKind.globalImplicit : NameKind) := by decide +kernel
theorem lk_sc_37_one : sc_37.names.lookup ("one" : Str) = some (NameKind.local : NameKind) := by decide +kernel
theorem lk_sc_37_text_of : sc_37.names.lookup ("text_of" : Str) = some (NameKind.globalImplicit : NameKind) := by decide +kernel
theorem lk_sc_37_at : sc_37.names.lookup ("at" : Str) = some (NameKind.local : NameKind) := by decide +kernel
theorem lk_sc_37_other : sc_37.names.lookup ("other" : Str) = some (NameKind.local : NameKind) := by decide +kernel
theorem lk_sc_37_WINDOW_SIGNS : sc_37.names.lookup ("WINDOW_SIGNS" : Str) = some (NameKind.globalImplicit : NameKind) := by decide +kernel
theorem lk_sc_37_require_within : sc_37.names.lookup ("require_within" : Str) = some (NameKind.globalImplicit : NameKind) := by decide +kernel
theorem lk_sc_37_require_body_form : sc_37.names.lookup ("require_body_form" : Str) = some (NameKind.globalImplicit : NameKind) := by decide +kernel
theorem lk_sc_38__law_mixed : sc_38.names.lookup ("_law_mixed" : Str) = some (NameKind.local : NameKind) := by decide +kernel
theorem lk_sc_38_int : sc_38.names.lookup ("int" : Str) = some (NameKind.globalImplicit : NameKind) := by decide +kernel
theorem lk_sc_38__law_great : sc_38.names.lookup ("_law_great" : Str) = some (NameKind.local : NameKind) := by decide +kernel
theorem lk_sc_38_max : sc_38.names.lookup ("max" : Str) = some (NameKind.globalImplicit : NameKind) := by decide +kernel
theorem lk_sc_38__law_spot : sc_38.names.lookup ("_law_spot" : Str) = some (NameKind.local : NameKind) := by decide +kernel
theorem lk_sc_38__law_cell : sc_38.names.lookup ("_law_cell" : Str) = some (NameKind.local : NameKind) := by decide +kernel
theorem lk_sc_38_abs : sc_38.names.lookup ("abs" : Str) = some (NameKind.globalImplicit : NameKind) := by decide +kernel
theorem lk_sc_38__law_script : sc_38.names.lookup ("_law_script" : Str) = some (NameKind.local : NameKind) := by decide +kernel
theorem lk_sc_38_len : sc_38.names.lookup ("len" : Str) = some (NameKind.globalImplicit : NameKind) := by decide +kernel
theorem lk_sc_39__law_two : sc_39.names.lookup ("_law_two" : Str) = some (NameKind.local : NameKind) := by decide +kernel
theorem lk_sc_39_int : sc_39.names.lookup ("int" : Str) = some (NameKind.globalImplicit : NameKind) := by decide +kernel
theorem lk_sc_39__law_total : sc_39.names.lookup ("_law_total" : Str) = some (NameKind.local : NameKind) := by decide +kernel
theorem lk_sc_39__law_one : sc_39.names.lookup ("_law_one" : Str) = some (NameKind.local : NameKind) := by decide +kernel
theorem lk_sc_39__law_churn_here : sc_39.names.lookup ("_law_churn_here" : Str) = some (NameKind.local : NameKind) := by decide +kernel
theorem lk_sc_39__law_found : sc_39.names.lookup ("_law_found" : Str) = some (NameKind.local : NameKind) := by decide +kernel
theorem lk_sc_40__law_items : sc_40.names.lookup ("_law_items" : Str) = some (NameKind.local : NameKind) := by decide +kernel
theorem lk_sc_40_len : sc_40.names.lookup ("len" : Str) = some (NameKind.globalImplicit : NameKind) := by decide +kernel
theorem lk_sc_40__law_churn_here : sc_40.names.lookup ("_law_churn_here" : Str) = some (NameKind.local : NameKind) := by decide +kernel
theorem lk_sc_40__law_ladle : sc_40.names.lookup ("_law_ladle" : Str) = some (NameKind.globalImplicit : NameKind) := by decide +kernel
theorem lk_sc_41__law_call : sc_41.names.lookup ("_law_call" : Str) = some (NameKind.local : NameKind) := by decide +kernel
theorem lk_sc_41_InvalidNumber : sc_41.names.lookup ("InvalidNumber" : Str) = some (NameKind.globalImplicit : NameKind) := by decide +kernel
theorem lk_sc_41_error : sc_41.names.lookup ("error" : Str) = some (NameKind.local : NameKind) := by decide +kernel
theorem lk_sc_41_repr : sc_41.names.lookup ("repr" : Str) = some (NameKind.globalImplicit : NameKind) := by decide +kernel
theorem lk_sc_41_InvalidOperation : sc_41.names.lookup ("InvalidOperation" : Str) = some (NameKind.globalImplicit : NameKind) := by decide +kernel
theorem lk_sc_41_InvalidText : sc_41.names.lookup ("InvalidText" : Str) = some (NameKind.globalImplicit : NameKind) := by decide +kernel
theorem lk_sc_41_InvalidBody : sc_41.names.lookup ("InvalidBody" : Str) = some (NameKind.globalImplicit : NameKind) := by decide +kernel
theorem lk_sc_42__law_told : sc_42.names.lookup ("_law_told" : Str) = some (NameKind.local : NameKind) := by decide +kernel
theorem lk_sc_42__law_at : sc_42.names.lookup ("_law_at" : Str) = some (NameKind.cell : NameKind) := by decide +kernel
theorem lk_sc_42_repr : sc_42.names.lookup ("repr" : Str) = some (NameKind.globalImplicit : NameKind) := by decide +kernel
theorem lk_sc_42__law_met : sc_42.names.lookup ("_law_met" : Str) = some (NameKind.globalImplicit : NameKind) := by decide +kernel
theorem lk_sc_42_other_body : sc_42.names.lookup ("other_body" : Str) = some (NameKind.globalImplicit : NameKind) := by decide +kernel
theorem lk_sc_42_agreeing : sc_42.names.lookup ("agreeing" : Str) = some (NameKind.globalImplicit : NameKind) := by decide +kernel
theorem lk_sc_42__law_call : sc_42.names.lookup ("_law_call" : Str) = some (NameKind.cell : NameKind) := by decide +kernel
theorem lk_sc_42_frame_cells : sc_42.names.lookup ("frame_cells" : Str) = some (NameKind.globalImplicit : NameKind) := by decide +kernel
theorem lk_sc_42_made_frame : sc_42.names.lookup ("made_frame" : Str) = some (NameKind.globalImplicit : NameKind) := by decide +kernel
theorem lk_sc_42__law_body : sc_42.names.lookup ("_law_body" : Str) = some (NameKind.cell : NameKind) := by decide +kernel
theorem lk_sc_42__law_churn_here : sc_42.names.lookup ("_law_churn_here" : Str) = some (NameKind.local : NameKind) := by decide +kernel
theorem lk_sc_42__law_spoon : sc_42.names.lookup ("_law_spoon" : Str) = some (NameKind.globalImplicit : NameKind) := by decide +kernel
theorem lk_sc_42__law_indices : sc_42.names.lookup ("_law_indices" : Str) = some (NameKind.cell : NameKind) := by decide +kernel
theorem lk_sc_42__law_bad : sc_42.names.lookup ("_law_bad" : Str) = some (NameKind.cell : NameKind) := by decide +kernel
theorem lk_sc_43__law_told : sc_43.names.lookup ("_law_told" : Str) = some (NameKind.local : NameKind) := by decide +kernel
theorem lk_sc_43_bodies_in : sc_43.names.lookup ("bodies_in" : Str) = some (NameKind.globalImplicit : NameKind) := by decide +kernel
theorem lk_sc_43_found_frames : sc_43.names.lookup ("found_frames" : Str) = some (NameKind.globalImplicit : NameKind) := by decide +kernel
theorem lk_sc_43_told_frame : sc_43.names.lookup ("told_frame" : Str) = some (NameKind.globalImplicit : NameKind) := by decide +kernel
theorem lk_sc_43__law_call : sc_43.names.lookup ("_law_call" : Str) = some (NameKind.cell : NameKind) := by decide +kernel
theorem lk_sc_43__law_met : sc_43.names.lookup ("_law_met" : Str) = some (NameKind.globalImplicit : NameKind) := by decide +kernel
theorem lk_sc_43__law_churn_here : sc_43.names.lookup ("_law_churn_here" : Str) = some (NameKind.cell : NameKind) := by decide +kernel
theorem lk_sc_43__law_spoon : sc_43.names.lookup ("_law_spoon" : Str) = some (NameKind.globalImplicit : NameKind) := by decide +kernel
theorem lk_sc_43__law_bad : sc_43.names.lookup ("_law_bad" : Str) = some (NameKind.cell : NameKind) := by decide +kernel
theorem lk_sc_44__law_told : sc_44.names.lookup ("_law_told" : Str) = some (NameKind.local : NameKind) := by decide +kernel
theorem lk_sc_44_bodies_in : sc_44.names.lookup ("bodies_in" : Str) = some (NameKind.globalImplicit : NameKind) := by decide +kernel
theorem lk_sc_44_found_frames : sc_44.names.lookup ("found_frames" : Str) = some (NameKind.globalImplicit : NameKind) := by decide +kernel
theorem lk_sc_44_told_frame : sc_44.names.lookup ("told_frame" : Str) = some (NameKind.globalImplicit : NameKind) := by decide +kernel
theorem lk_sc_44__law_call : sc_44.names.lookup ("_law_call" : Str) = some (NameKind.cell : NameKind) := by decide +kernel
theorem lk_sc_44__law_met : sc_44.names.lookup ("_law_met" : Str) = some (NameKind.globalImplicit : NameKind) := by decide +kernel
theorem lk_sc_44__law_script : sc_44.names.lookup ("_law_script" : Str) = some (NameKind.local : NameKind) := by decide +kernel
theorem lk_sc_44_len : sc_44.names.lookup ("len" : Str) = some (NameKind.globalImplicit : NameKind) := by decide +kernel
theorem lk_sc_44_min : sc_44.names.lookup ("min" : Str) = some (NameKind.globalImplicit : NameKind) := by decide +kernel
theorem lk_sc_44_max : sc_44.names.lookup ("max" : Str) = some (NameKind.globalImplicit : NameKind) := by decide +kernel
theorem lk_sc_44_range : sc_44.names.lookup ("range" : Str) = some (NameKind.globalImplicit : NameKind) := by decide +kernel
theorem lk_sc_44__law_spot : sc_44.names.lookup ("_law_spot" : Str) = some (NameKind.local : NameKind) := by decide +kernel
theorem lk_sc_44__law_churn_here : sc_44.names.lookup ("_law_churn_here" : Str) = some (NameKind.local : NameKind) := by decide +kernel
theorem lk_sc_44__law_bodies_right : sc_44.names.lookup ("_law_bodies_right" : Str) = some (NameKind.globalImplicit : NameKind) := by decide +kernel
theorem lk_sc_44__law_texts_right : sc_44.names.lookup ("_law_texts_right" : Str) = some (NameKind.globalImplicit : NameKind) := by decide +kernel
theorem lk_sc_44__law_churn : sc_44.names.lookup ("_law_churn" : Str) = some (NameKind.globalImplicit : NameKind) := by decide +kernel
theorem nd_BEGIN : (("BEGIN" : Str) == ("__debug__" : Str)) = false := by decide +kernel
theorem nc_BEGIN : (("BEGIN" : Str) == ("__classdict__" : Str)) = false := by decide +kernel
theorem nd_BODY_CELLS : (("BODY_CELLS" : Str) == ("__debug__" : Str)) = false := by decide +kernel
theorem nc_BODY_CELLS : (("BODY_CELLS" : Str) == ("__classdict__" : Str)) = false := by decide +kernel
theorem nd_DIGITS : (("DIGITS" : Str) == ("__debug__" : Str)) = false := by decide +kernel
theorem nc_DIGITS : (("DIGITS" : Str) == ("__classdict__" : Str)) = false := by decide +kernel
theorem nd_END : (("END" : Str) == ("__debug__" : Str)) = false := by decide +kernel
theorem nc_END : (("END" : Str) == ("__classdict__" : Str)) = false := by decide +kernel
theorem nd_FIGURES : (("FIGURES" : Str) == ("__debug__" : Str)) = false := by decide +kernel
theorem nc_FIGURES : (("FIGURES" : Str) == ("__classdict__" : Str)) = false := by decide +kernel
theorem nd_FRAME_CELLS : (("FRAME_CELLS" : Str) == ("__debug__" : Str)) = false := by decide +kernel
theorem nc_FRAME_CELLS : (("FRAME_CELLS" : Str) == ("__classdict__" : Str)) = false := by decide +kernel
theorem nd_GREATEST_SIGN : (("GREATEST_SIGN" : Str) == ("__debug__" : Str)) = false := by decide +kernel
theorem nc_GREATEST_SIGN : (("GREATEST_SIGN" : Str) == ("__classdict__" : Str)) = false := by decide +kernel
theorem nd_InvalidBody : (("InvalidBody" : Str) == ("__debug__" : Str)) = false := by decide +kernel
theorem nc_InvalidBody : (("InvalidBody" : Str) == ("__classdict__" : Str)) = false := by decide +kernel
theorem nd_InvalidNumber : (("InvalidNumber" : Str) == ("__debug__" : Str)) = false := by decide +kernel
theorem nc_InvalidNumber : (("InvalidNumber" : Str) == ("__classdict__" : Str)) = false := by decide +kernel
theorem nd_InvalidOperation : (("InvalidOperation" : Str) == ("__debug__" : Str)) = false := by decide +kernel
theorem nc_InvalidOperation : (("InvalidOperation" : Str) == ("__classdict__" : Str)) = false := by decide +kernel
theorem nd_InvalidText : (("InvalidText" : Str) == ("__debug__" : Str)) = false := by decide +kernel
theorem nc_InvalidText : (("InvalidText" : Str) == ("__classdict__" : Str)) = false := by decide +kernel
theorem nd_LEAST_SIGN : (("LEAST_SIGN" : Str) == ("__debug__" : Str)) = false := by decide +kernel
theorem nc_LEAST_SIGN : (("LEAST_SIGN" : Str) == ("__classdict__" : Str)) = false := by decide +kernel
theorem nd_MAX_CELL : (("MAX_CELL" : Str) == ("__debug__" : Str)) = false := by decide +kernel
theorem nc_MAX_CELL : (("MAX_CELL" : Str) == ("__classdict__" : Str)) = false := by decide +kernel
theorem nd_MOST_ALIKE : (("MOST_ALIKE" : Str) == ("__debug__" : Str)) = false := by decide +kernel
theorem nc_MOST_ALIKE : (("MOST_ALIKE" : Str) == ("__classdict__" : Str)) = false := by decide +kernel
theorem nd_MOST_SIGNS : (("MOST_SIGNS" : Str) == ("__debug__" : Str)) = false := by decide +kernel
theorem nc_MOST_SIGNS : (("MOST_SIGNS" : Str) == ("__classdict__" : Str)) = false := by decide +kernel
theorem nd_PLACES : (("PLACES" : Str) == ("__debug__" : Str)) = false := by decide +kernel
theorem nc_PLACES : (("PLACES" : Str) == ("__classdict__" : Str)) = false := by decide +kernel
theorem nd_PRIME : (("PRIME" : Str) == ("__debug__" : Str)) = false := by decide +kernel
theorem nc_PRIME : (("PRIME" : Str) == ("__classdict__" : Str)) = false := by decide +kernel
theorem nd_WINDOW_SIGNS : (("WINDOW_SIGNS" : Str) == ("__debug__" : Str)) = false := by decide +kernel
theorem nc_WINDOW_SIGNS : (("WINDOW_SIGNS" : Str) == ("__classdict__" : Str)) = false := by decide +kernel
theorem nd__law_at : (("_law_at" : Str) == ("__debug__" : Str)) = false := by decide +kernel
theorem nc__law_at : (("_law_at" : Str) == ("__classdict__" : Str)) = false := by decide +kernel
theorem nd__law_bad : (("_law_bad" : Str) == ("__debug__" : Str)) = false := by decide +kernel
theorem nc__law_bad : (("_law_bad" : Str) == ("__classdict__" : Str)) = false := by decide +kernel
theorem nd__law_bodies_right : (("_law_bodies_right" : Str) == ("__debug__" : Str)) = false := by decide +kernel
theorem nc__law_bodies_right : (("_law_bodies_right" : Str) == ("__classdict__" : Str)) = false := by decide +kernel
theorem nd__law_body : (("_law_body" : Str) == ("__debug__" : Str)) = false := by decide +kernel
theorem nc__law_body : (("_law_body" : Str) == ("__classdict__" : Str)) = false := by decide +kernel
theorem nd__law_call : (("_law_call" : Str) == ("__debug__" : Str)) = false := by decide +kernel
theorem nc__law_call : (("_law_call" : Str) == ("__classdict__" : Str)) = false := by decide +kernel
theorem nd__law_cell : (("_law_cell" : Str) == ("__debug__" : Str)) = false := by decide +kernel
theorem nc__law_cell : (("_law_cell" : Str) == ("__classdict__" : Str)) = false := by decide +kernel
theorem nd__law_churn : (("_law_churn" : Str) == ("__debug__" : Str)) = false := by decide +kernel
theorem nc__law_churn : (("_law_churn" : Str) == ("__classdict__" : Str)) = false := by decide +kernel
theorem nd__law_churn_here : (("_law_churn_here" : Str) == ("__debug__" : Str)) = false := by decide +kernel
theorem nc__law_churn_here : (("_law_churn_here" : Str) == ("__classdict__" : Str)) = false := by decide +kernel
theorem nd__law_found : (("_law_found" : Str) == ("__debug__" : Str)) = false := by decide +kernel
theorem nc__law_found : (("_law_found" : Str) == ("__classdict__" : Str)) = false := by decide +kernel
theorem nd__law_great : (("_law_great" : Str) == ("__debug__" : Str)) = false := by decide +kernel
theorem nc__law_great : (("_law_great" : Str) == ("__classdict__" : Str)) = false := by decide +kernel
theorem nd__law_indices : (("_law_indices" : Str) == ("__debug__" : Str)) = false := by decide +kernel
theorem nc__law_indices : (("_law_indices" : Str) == ("__classdict__" : Str)) = false := by decide +kernel
theorem nd__law_items : (("_law_items" : Str) == ("__debug__" : Str)) = false := by decide +kernel
theorem nc__law_items : (("_law_items" : Str) == ("__classdict__" : Str)) = false := by decide +kernel
theorem nd__law_ladle : (("_law_ladle" : Str) == ("__debug__" : Str)) = false := by decide +kernel
theorem nc__law_ladle : (("_law_ladle" : Str) == ("__classdict__" : Str)) = false := by decide +kernel
theorem nd__law_met : (("_law_met" : Str) == ("__debug__" : Str)) = false := by decide +kernel
theorem nc__law_met : (("_law_met" : Str) == ("__classdict__" : Str)) = false := by decide +kernel
theorem nd__law_mixed : (("_law_mixed" : Str) == ("__debug__" : Str)) = false := by decide +kernel
theorem nc__law_mixed : (("_law_mixed" : Str) == ("__classdict__" : Str)) = false := by decide +kernel
theorem nd__law_one : (("_law_one" : Str) == ("__debug__" : Str)) = false := by decide +kernel
theorem nc__law_one : (("_law_one" : Str) == ("__classdict__" : Str)) = false := by decide +kernel
theorem nd__law_script : (("_law_script" : Str) == ("__debug__" : Str)) = false := by decide +kernel
theorem nc__law_script : (("_law_script" : Str) == ("__classdict__" : Str)) = false := by decide +kernel
theorem nd__law_spoon : (("_law_spoon" : Str) == ("__debug__" : Str)) = false := by decide +kernel
theorem nc__law_spoon : (("_law_spoon" : Str) == ("__classdict__" : Str)) = false := by decide +kernel
theorem nd__law_spot : (("_law_spot" : Str) == ("__debug__" : Str)) = false := by decide +kernel
theorem nc__law_spot : (("_law_spot" : Str) == ("__classdict__" : Str)) = false := by decide +kernel
theorem nd__law_texts_right : (("_law_texts_right" : Str) == ("__debug__" : Str)) = false := by decide +kernel
theorem nc__law_texts_right : (("_law_texts_right" : Str) == ("__classdict__" : Str)) = false := by decide +kernel
theorem nd__law_told : (("_law_told" : Str) == ("__debug__" : Str)) = false := by decide +kernel
theorem nc__law_told : (("_law_told" : Str) == ("__classdict__" : Str)) = false := by decide +kernel
theorem nd__law_total : (("_law_total" : Str) == ("__debug__" : Str)) = false := by decide +kernel
theorem nc__law_total : (("_law_total" : Str) == ("__classdict__" : Str)) = false := by decide +kernel
theorem nd__law_two : (("_law_two" : Str) == ("__debug__" : Str)) = false := by decide +kernel
theorem nc__law_two : (("_law_two" : Str) == ("__classdict__" : Str)) = false := by decide +kernel
theorem nd_a : (("a" : Str) == ("__debug__" : Str)) = false := by decide +kernel
theorem nc_a : (("a" : Str) == ("__classdict__" : Str)) = false := by decide +kernel
theorem nd_abs : (("abs" : Str) == ("__debug__" : Str)) = false := by decide +kernel
theorem nc_abs : (("abs" : Str) == ("__classdict__" : Str)) = false := by decide +kernel
theorem nd_agreeing : (("agreeing" : Str) == ("__debug__" : Str)) = false := by decide +kernel
theorem nc_agreeing : (("agreeing" : Str) == ("__classdict__" : Str)) = false := by decide +kernel
theorem nd_all : (("all" : Str) == ("__debug__" : Str)) = false := by decide +kernel
theorem nc_all : (("all" : Str) == ("__classdict__" : Str)) = false := by decide +kernel
theorem nd_are_cells_in : (("are_cells_in" : Str) == ("__debug__" : Str)) = false := by decide +kernel
theorem nc_are_cells_in : (("are_cells_in" : Str) == ("__classdict__" : Str)) = false := by decide +kernel
theorem nd_at : (("at" : Str) == ("__debug__" : Str)) = false := by decide +kernel
theorem nc_at : (("at" : Str) == ("__classdict__" : Str)) = false := by decide +kernel
theorem nd_b : (("b" : Str) == ("__debug__" : Str)) = false := by decide +kernel
theorem nc_b : (("b" : Str) == ("__classdict__" : Str)) = false := by decide +kernel
theorem nd_back_of : (("back_of" : Str) == ("__debug__" : Str)) = false := by decide +kernel
theorem nc_back_of : (("back_of" : Str) == ("__classdict__" : Str)) = false := by decide +kernel
theorem nd_bodies_in : (("bodies_in" : Str) == ("__debug__" : Str)) = false := by decide +kernel
theorem nc_bodies_in : (("bodies_in" : Str) == ("__classdict__" : Str)) = false := by decide +kernel
theorem nd_body : (("body" : Str) == ("__debug__" : Str)) = false := by decide +kernel
theorem nc_body : (("body" : Str) == ("__classdict__" : Str)) = false := by decide +kernel
theorem nd_bool : (("bool" : Str) == ("__debug__" : Str)) = false := by decide +kernel
theorem nc_bool : (("bool" : Str) == ("__classdict__" : Str)) = false := by decide +kernel
theorem nd_cell : (("cell" : Str) == ("__debug__" : Str)) = false := by decide +kernel
theorem nc_cell : (("cell" : Str) == ("__classdict__" : Str)) = false := by decide +kernel
theorem nd_cells : (("cells" : Str) == ("__debug__" : Str)) = false := by decide +kernel
theorem nc_cells : (("cells" : Str) == ("__classdict__" : Str)) = false := by decide +kernel
theorem nd_cells_of : (("cells_of" : Str) == ("__debug__" : Str)) = false := by decide +kernel
theorem nc_cells_of : (("cells_of" : Str) == ("__classdict__" : Str)) = false := by decide +kernel
theorem nd_cells_told : (("cells_told" : Str) == ("__debug__" : Str)) = false := by decide +kernel
theorem nc_cells_told : (("cells_told" : Str) == ("__classdict__" : Str)) = false := by decide +kernel
theorem nd_entry : (("entry" : Str) == ("__debug__" : Str)) = false := by decide +kernel
theorem nc_entry : (("entry" : Str) == ("__classdict__" : Str)) = false := by decide +kernel
theorem nd_error : (("error" : Str) == ("__debug__" : Str)) = false := by decide +kernel
theorem nc_error : (("error" : Str) == ("__classdict__" : Str)) = false := by decide +kernel
theorem nd_first : (("first" : Str) == ("__debug__" : Str)) = false := by decide +kernel
theorem nc_first : (("first" : Str) == ("__classdict__" : Str)) = false := by decide +kernel
theorem nd_found : (("found" : Str) == ("__debug__" : Str)) = false := by decide +kernel
theorem nc_found : (("found" : Str) == ("__classdict__" : Str)) = false := by decide +kernel
theorem nd_found_frames : (("found_frames" : Str) == ("__debug__" : Str)) = false := by decide +kernel
theorem nc_found_frames : (("found_frames" : Str) == ("__classdict__" : Str)) = false := by decide +kernel
theorem nd_found_in : (("found_in" : Str) == ("__debug__" : Str)) = false := by decide +kernel
theorem nc_found_in : (("found_in" : Str) == ("__classdict__" : Str)) = false := by decide +kernel
theorem nd_frame_cells : (("frame_cells" : Str) == ("__debug__" : Str)) = false := by decide +kernel
theorem nc_frame_cells : (("frame_cells" : Str) == ("__classdict__" : Str)) = false := by decide +kernel
theorem nd_greatest : (("greatest" : Str) == ("__debug__" : Str)) = false := by decide +kernel
theorem nc_greatest : (("greatest" : Str) == ("__classdict__" : Str)) = false := by decide +kernel
theorem nd_here : (("here" : Str) == ("__debug__" : Str)) = false := by decide +kernel
theorem nc_here : (("here" : Str) == ("__classdict__" : Str)) = false := by decide +kernel
theorem nd_indices : (("indices" : Str) == ("__debug__" : Str)) = false := by decide +kernel
theorem nc_indices : (("indices" : Str) == ("__classdict__" : Str)) = false := by decide +kernel
theorem nd_int : (("int" : Str) == ("__debug__" : Str)) = false := by decide +kernel
theorem nc_int : (("int" : Str) == ("__classdict__" : Str)) = false := by decide +kernel
theorem nd_is_ascending_within : (("is_ascending_within" : Str) == ("__debug__" : Str)) = false := by decide +kernel
theorem nc_is_ascending_within : (("is_ascending_within" : Str) == ("__classdict__" : Str)) = false := by decide +kernel
theorem nd_is_body_form : (("is_body_form" : Str) == ("__debug__" : Str)) = false := by decide +kernel
theorem nc_is_body_form : (("is_body_form" : Str) == ("__classdict__" : Str)) = false := by decide +kernel
theorem nd_is_cell : (("is_cell" : Str) == ("__debug__" : Str)) = false := by decide +kernel
theorem nc_is_cell : (("is_cell" : Str) == ("__classdict__" : Str)) = false := by decide +kernel
theorem nd_is_frame_of : (("is_frame_of" : Str) == ("__debug__" : Str)) = false := by decide +kernel
theorem nc_is_frame_of : (("is_frame_of" : Str) == ("__classdict__" : Str)) = false := by decide +kernel
theorem nd_is_other_body : (("is_other_body" : Str) == ("__debug__" : Str)) = false := by decide +kernel
theorem nc_is_other_body : (("is_other_body" : Str) == ("__classdict__" : Str)) = false := by decide +kernel
theorem nd_is_text : (("is_text" : Str) == ("__debug__" : Str)) = false := by decide +kernel
theorem nc_is_text : (("is_text" : Str) == ("__classdict__" : Str)) = false := by decide +kernel
theorem nd_is_whole : (("is_whole" : Str) == ("__debug__" : Str)) = false := by decide +kernel
theorem nc_is_whole : (("is_whole" : Str) == ("__classdict__" : Str)) = false := by decide +kernel
theorem nd_is_within : (("is_within" : Str) == ("__debug__" : Str)) = false := by decide +kernel
theorem nc_is_within : (("is_within" : Str) == ("__classdict__" : Str)) = false := by decide +kernel
theorem nd_lacking : (("lacking" : Str) == ("__debug__" : Str)) = false := by decide +kernel
theorem nc_lacking : (("lacking" : Str) == ("__classdict__" : Str)) = false := by decide +kernel
theorem nd_least : (("least" : Str) == ("__debug__" : Str)) = false := by decide +kernel
theorem nc_least : (("least" : Str) == ("__classdict__" : Str)) = false := by decide +kernel
theorem nd_left : (("left" : Str) == ("__debug__" : Str)) = false := by decide +kernel
theorem nc_left : (("left" : Str) == ("__classdict__" : Str)) = false := by decide +kernel
theorem nd_len : (("len" : Str) == ("__debug__" : Str)) = false := by decide +kernel
theorem nc_len : (("len" : Str) == ("__classdict__" : Str)) = false := by decide +kernel
theorem nd_made_frame : (("made_frame" : Str) == ("__debug__" : Str)) = false := by decide +kernel
theorem nc_made_frame : (("made_frame" : Str) == ("__classdict__" : Str)) = false := by decide +kernel
theorem nd_max : (("max" : Str) == ("__debug__" : Str)) = false := by decide +kernel
theorem nc_max : (("max" : Str) == ("__classdict__" : Str)) = false := by decide +kernel
theorem nd_min : (("min" : Str) == ("__debug__" : Str)) = false := by decide +kernel
theorem nc_min : (("min" : Str) == ("__classdict__" : Str)) = false := by decide +kernel
theorem nd_most : (("most" : Str) == ("__debug__" : Str)) = false := by decide +kernel
theorem nc_most : (("most" : Str) == ("__classdict__" : Str)) = false := by decide +kernel
theorem nd_none : (("none" : Str) == ("__debug__" : Str)) = false := by decide +kernel
theorem nc_none : (("none" : Str) == ("__classdict__" : Str)) = false := by decide +kernel
theorem nd_none_in : (("none_in" : Str) == ("__debug__" : Str)) = false := by decide +kernel
theorem nc_none_in : (("none_in" : Str) == ("__classdict__" : Str)) = false := by decide +kernel
theorem nd_number : (("number" : Str) == ("__debug__" : Str)) = false := by decide +kernel
theorem nc_number : (("number" : Str) == ("__classdict__" : Str)) = false := by decide +kernel
theorem nd_one : (("one" : Str) == ("__debug__" : Str)) = false := by decide +kernel
theorem nc_one : (("one" : Str) == ("__classdict__" : Str)) = false := by decide +kernel
theorem nd_other : (("other" : Str) == ("__debug__" : Str)) = false := by decide +kernel
theorem nc_other : (("other" : Str) == ("__classdict__" : Str)) = false := by decide +kernel
theorem nd_other_body : (("other_body" : Str) == ("__debug__" : Str)) = false := by decide +kernel
theorem nc_other_body : (("other_body" : Str) == ("__classdict__" : Str)) = false := by decide +kernel
theorem nd_place : (("place" : Str) == ("__debug__" : Str)) = false := by decide +kernel
theorem nc_place : (("place" : Str) == ("__classdict__" : Str)) = false := by decide +kernel
theorem nd_places : (("places" : Str) == ("__debug__" : Str)) = false := by decide +kernel
theorem nc_places : (("places" : Str) == ("__classdict__" : Str)) = false := by decide +kernel
theorem nd_points : (("points" : Str) == ("__debug__" : Str)) = false := by decide +kernel
theorem nc_points : (("points" : Str) == ("__classdict__" : Str)) = false := by decide +kernel
theorem nd_poly : (("poly" : Str) == ("__debug__" : Str)) = false := by decide +kernel
theorem nc_poly : (("poly" : Str) == ("__classdict__" : Str)) = false := by decide +kernel
theorem nd_poly_of : (("poly_of" : Str) == ("__debug__" : Str)) = false := by decide +kernel
theorem nc_poly_of : (("poly_of" : Str) == ("__classdict__" : Str)) = false := by decide +kernel
theorem nd_product_in : (("product_in" : Str) == ("__debug__" : Str)) = false := by decide +kernel
theorem nc_product_in : (("product_in" : Str) == ("__classdict__" : Str)) = false := by decide +kernel
theorem nd_repr : (("repr" : Str) == ("__debug__" : Str)) = false := by decide +kernel
theorem nc_repr : (("repr" : Str) == ("__classdict__" : Str)) = false := by decide +kernel
theorem nd_require_body_and_indices : (("require_body_and_indices" : Str) == ("__debug__" : Str)) = false := by decide +kernel
theorem nc_require_body_and_indices : (("require_body_and_indices" : Str) == ("__classdict__" : Str)) = false := by decide +kernel
theorem nd_require_body_form : (("require_body_form" : Str) == ("__debug__" : Str)) = false := by decide +kernel
theorem nc_require_body_form : (("require_body_form" : Str) == ("__classdict__" : Str)) = false := by decide +kernel
theorem nd_require_indices : (("require_indices" : Str) == ("__debug__" : Str)) = false := by decide +kernel
theorem nc_require_indices : (("require_indices" : Str) == ("__classdict__" : Str)) = false := by decide +kernel
theorem nd_require_text : (("require_text" : Str) == ("__debug__" : Str)) = false := by decide +kernel
theorem nc_require_text : (("require_text" : Str) == ("__classdict__" : Str)) = false := by decide +kernel
theorem nd_require_within : (("require_within" : Str) == ("__debug__" : Str)) = false := by decide +kernel
theorem nc_require_within : (("require_within" : Str) == ("__classdict__" : Str)) = false := by decide +kernel
theorem nd_right : (("right" : Str) == ("__debug__" : Str)) = false := by decide +kernel
theorem nc_right : (("right" : Str) == ("__classdict__" : Str)) = false := by decide +kernel
theorem nd_scaled_in : (("scaled_in" : Str) == ("__debug__" : Str)) = false := by decide +kernel
theorem nc_scaled_in : (("scaled_in" : Str) == ("__classdict__" : Str)) = false := by decide +kernel
theorem nd_second : (("second" : Str) == ("__debug__" : Str)) = false := by decide +kernel
theorem nc_second : (("second" : Str) == ("__classdict__" : Str)) = false := by decide +kernel
theorem nd_sign : (("sign" : Str) == ("__debug__" : Str)) = false := by decide +kernel
theorem nc_sign : (("sign" : Str) == ("__classdict__" : Str)) = false := by decide +kernel
theorem nd_size : (("size" : Str) == ("__debug__" : Str)) = false := by decide +kernel
theorem nc_size : (("size" : Str) == ("__classdict__" : Str)) = false := by decide +kernel
theorem nd_sorted : (("sorted" : Str) == ("__debug__" : Str)) = false := by decide +kernel
theorem nc_sorted : (("sorted" : Str) == ("__classdict__" : Str)) = false := by decide +kernel
theorem nd_spliced : (("spliced" : Str) == ("__debug__" : Str)) = false := by decide +kernel
theorem nc_spliced : (("spliced" : Str) == ("__classdict__" : Str)) = false := by decide +kernel
theorem nd_str : (("str" : Str) == ("__debug__" : Str)) = false := by decide +kernel
theorem nc_str : (("str" : Str) == ("__classdict__" : Str)) = false := by decide +kernel
theorem nd_sum_in : (("sum_in" : Str) == ("__debug__" : Str)) = false := by decide +kernel
theorem nc_sum_in : (("sum_in" : Str) == ("__classdict__" : Str)) = false := by decide +kernel
theorem nd_text : (("text" : Str) == ("__debug__" : Str)) = false := by decide +kernel
theorem nc_text : (("text" : Str) == ("__classdict__" : Str)) = false := by decide +kernel
theorem nd_text_in : (("text_in" : Str) == ("__debug__" : Str)) = false := by decide +kernel
theorem nc_text_in : (("text_in" : Str) == ("__classdict__" : Str)) = false := by decide +kernel
theorem nd_text_of : (("text_of" : Str) == ("__debug__" : Str)) = false := by decide +kernel
theorem nc_text_of : (("text_of" : Str) == ("__classdict__" : Str)) = false := by decide +kernel
theorem nd_through_in : (("through_in" : Str) == ("__debug__" : Str)) = false := by decide +kernel
theorem nc_through_in : (("through_in" : Str) == ("__classdict__" : Str)) = false := by decide +kernel
theorem nd_to : (("to" : Str) == ("__debug__" : Str)) = false := by decide +kernel
theorem nc_to : (("to" : Str) == ("__classdict__" : Str)) = false := by decide +kernel
theorem nd_told_frame : (("told_frame" : Str) == ("__debug__" : Str)) = false := by decide +kernel
theorem nc_told_frame : (("told_frame" : Str) == ("__classdict__" : Str)) = false := by decide +kernel
theorem nd_trimmed : (("trimmed" : Str) == ("__debug__" : Str)) = false := by decide +kernel
theorem nc_trimmed : (("trimmed" : Str) == ("__classdict__" : Str)) = false := by decide +kernel
theorem nd_tuple : (("tuple" : Str) == ("__debug__" : Str)) = false := by decide +kernel
theorem nc_tuple : (("tuple" : Str) == ("__classdict__" : Str)) = false := by decide +kernel
theorem nd_value : (("value" : Str) == ("__debug__" : Str)) = false := by decide +kernel
theorem nc_value : (("value" : Str) == ("__classdict__" : Str)) = false := by decide +kernel
theorem nd_value_in : (("value_in" : Str) == ("__debug__" : Str)) = false := by decide +kernel
theorem nc_value_in : (("value_in" : Str) == ("__classdict__" : Str)) = false := by decide +kernel
theorem nd_window : (("window" : Str) == ("__debug__" : Str)) = false := by decide +kernel
theorem nc_window : (("window" : Str) == ("__classdict__" : Str)) = false := by decide +kernel
theorem nd_window_at : (("window_at" : Str) == ("__debug__" : Str)) = false := by decide +kernel
theorem nc_window_at : (("window_at" : Str) == ("__classdict__" : Str)) = false := by decide +kernel
theorem nd_windows_found : (("windows_found" : Str) == ("__debug__" : Str)) = false := by decide +kernel
theorem nc_windows_found : (("windows_found" : Str) == ("__classdict__" : Str)) = false := by decide +kernel
theorem fn_0 {P : Program} {w : World} {mg : Str → Option Value} {base : Heap} {W : Wd} (h : Wk P w mg base W) {fd : FuncData} (F : FunD W.K "is_whole" "is_whole" (defArgs (top 9)) (defBody (top 9)) (defScope (top 9)) [] [] (He.ga W.K "is_whole") fd) : FnG P w W.K mg base 1 (He.ga W.K "is_whole") fd ["value"] (spN W 1 f_is_whole) := by
  refine fn_ok (N := ["value"]) (d := d_is_whole) rfl F ⟨rfl, rfl, rfl, by decide +kernel, rfl, by decide +kernel, by decide +kernel⟩ (.refl _) fun cdv A outer s H E hr J2 => ?_
  exact (ys_one (ys_ret J2.toXJ (xe_and J2.toXJ (xe_isi (ty := .int) J2.toXJ lk_sc_0_isinstance h.g.b_isinstance lk_sc_0_int h.g.b_int bt_int (by decide) (xe_var (i := 0) rfl (.inl lk_sc_0_value) nd_value nc_value) nn_int nd_int) (xe_one (xe_not J2.toXJ (xe_isi (ty := .bool) J2.toXJ lk_sc_0_isinstance h.g.b_isinstance lk_sc_0_bool h.g.b_bool bt_bool (by decide) (xe_var (i := 0) rfl (.inl lk_sc_0_value) nd_value nc_value) nn_bool nd_bool))))))
theorem bn_0 {K : PySem.W.Frag} {f : Addr} {fd : FuncData} (F : FunD K "is_whole" "is_whole" (defArgs (top 9)) (defBody (top 9)) (defScope (top 9)) [] [] f fd) : Binds K fd ["value"] [] := F.bindsN fun _ _ _ _ _ _ us hl => match us, hl with | [_], _ => rfl
theorem c_0 {P : Program} {w : World} {mg : Str → Option Value} {base : Heap} {W : Wd} (h : Wk P w mg base W) : Cal P w mg base 1 "is_whole" 1 W f_is_whole := by
  obtain ⟨fd, F⟩ := h.def_ 0 _ rfl
  exact ⟨_, fd, ["value"], rfl, fn_0 h F, h.x_0, F.kp, bn_0 F⟩
theorem fn_1 {P : Program} {w : World} {mg : Str → Option Value} {base : Heap} {W : Wd} (h : Wk P w mg base W) {fd : FuncData} (F : FunD W.K "is_within" "is_within" (defArgs (top 10)) (defBody (top 10)) (defScope (top 10)) [] [] (He.ga W.K "is_within") fd) : FnG P w W.K mg base 2 (He.ga W.K "is_within") fd ["value", "least", "greatest"] (spN W 3 f_is_within) := by
  have hc_0 := c_0 h
  refine fn_ok (N := ["value", "least", "greatest"]) (d := d_is_within) rfl F ⟨rfl, rfl, rfl, by decide +kernel, rfl, by decide +kernel, by decide +kernel⟩ (.refl _) fun cdv A outer s H E hr J2 => ?_
  exact (ys_one (ys_ret J2.toXJ (xe_and J2.toXJ (xe_call J2 (hc_0.mono (by decide)) hr lk_sc_1_is_whole (xa_cons J2.toXJ (xe_var (i := 0) rfl (.inl lk_sc_1_value) nd_value nc_value) xa_nil) nd_is_whole) (xe_one (xe_chain J2.toXJ op_leA op_leA ok_cmp ok_cmp (xe_var (i := 1) rfl (.inl lk_sc_1_least) nd_least nc_least) (xe_var (i := 0) rfl (.inl lk_sc_1_value) nd_value nc_value) (xe_var (i := 2) rfl (.inl lk_sc_1_greatest) nd_greatest nc_greatest) (by rfl))))))
theorem bn_1 {K : PySem.W.Frag} {f : Addr} {fd : FuncData} (F : FunD K "is_within" "is_within" (defArgs (top 10)) (defBody (top 10)) (defScope (top 10)) [] [] f fd) : Binds K fd ["value", "least", "greatest"] [] := F.bindsN fun _ _ _ _ _ _ us hl => match us, hl with | [_, _, _], _ => rfl
theorem c_1 {P : Program} {w : World} {mg : Str → Option Value} {base : Heap} {W : Wd} (h : Wk P w mg base W) : Cal P w mg base 2 "is_within" 3 W f_is_within := by
  obtain ⟨fd, F⟩ := h.def_ 1 _ rfl
  exact ⟨_, fd, ["value", "least", "greatest"], rfl, fn_1 h F, h.x_1, F.kp, bn_1 F⟩
theorem fn_2 {P : Program} {w : World} {mg : Str → Option Value} {base : Heap} {W : Wd} (h : Wk P w mg base W) {fd : FuncData} (F : FunD W.K "require_within" "require_within" (defArgs (top 11)) (defBody (top 11)) (defScope (top 11)) [] [] (He.ga W.K "require_within") fd) : FnG P w W.K mg base 3 (He.ga W.K "require_within") fd ["value", "least", "greatest"] (spN W 3 f_require_within) := by
  have hc_1 := c_1 h
  refine fn_ok (N := ["value", "least", "greatest"]) (d := d_require_within) rfl F ⟨rfl, rfl, rfl, by decide +kernel, rfl, by decide +kernel, by decide +kernel⟩ (.refl _) fun cdv A outer s H E hr J2 => ?_
  exact (ys_one (ys_if J2.toXJ (xt_not J2.toXJ (xt_val J2.toXJ (xe_call J2 (hc_1.mono (by decide)) hr lk_sc_2_is_within (xa_cons J2.toXJ (xe_var (i := 0) rfl (.inl lk_sc_2_value) nd_value nc_value) (xa_cons J2.toXJ (xe_var (i := 1) rfl (.inl lk_sc_2_least) nd_least nc_least) (xa_cons J2.toXJ (xe_var (i := 2) rfl (.inl lk_sc_2_greatest) nd_greatest nc_greatest) xa_nil))) nd_is_within))) (ys_one (ys_raiseF J2 PySem.W.kxs_IndexError PySem.F.excBase_IndexError PySem.F.store_IndexError ne_ref h.o_InvalidNumber h.file h.htop h.g.b_super (hr.mono (by decide)) lk_sc_2_InvalidNumber h.c_InvalidNumber (by rw [h.hca]; rfl) (xe_var (i := 0) rfl (.inl lk_sc_2_value) nd_value nc_value) nd_InvalidNumber)) ys_nil))
theorem bn_2 {K : PySem.W.Frag} {f : Addr} {fd : FuncData} (F : FunD K "require_within" "require_within" (defArgs (top 11)) (defBody (top 11)) (defScope (top 11)) [] [] f fd) : Binds K fd ["value", "least", "greatest"] [] := F.bindsN fun _ _ _ _ _ _ us hl => match us, hl with | [_, _, _], _ => rfl
theorem c_2 {P : Program} {w : World} {mg : Str → Option Value} {base : Heap} {W : Wd} (h : Wk P w mg base W) : Cal P w mg base 3 "require_within" 3 W f_require_within := by
  obtain ⟨fd, F⟩ := h.def_ 2 _ rfl
  exact ⟨_, fd, ["value", "least", "greatest"], rfl, fn_2 h F, h.x_2, F.kp, bn_2 F⟩
theorem fn_3 {P : Program} {w : World} {mg : Str → Option Value} {base : Heap} {W : Wd} (h : Wk P w mg base W) {fd : FuncData} (F : FunD W.K "is_cell" "is_cell" (defArgs (top 12)) (defBody (top 12)) (defScope (top 12)) [] [] (He.ga W.K "is_cell") fd) : FnG P w W.K mg base 3 (He.ga W.K "is_cell") fd ["value"] (spN W 1 f_is_cell) := by
  have hc_1 := c_1 h
  refine fn_ok (N := ["value"]) (d := d_is_cell) rfl F ⟨rfl, rfl, rfl, by decide +kernel, rfl, by decide +kernel, by decide +kernel⟩ (.refl _) fun cdv A outer s H E hr J2 => ?_
  exact (ys_one (ys_ret J2.toXJ (xe_call J2 (hc_1.mono (by decide)) hr lk_sc_3_is_within (xa_cons J2.toXJ (xe_var (i := 0) rfl (.inl lk_sc_3_value) nd_value nc_value) (xa_cons J2.toXJ xe_int (xa_cons J2.toXJ (xe_gint lk_sc_3_MAX_CELL h.g.MAX_CELL nd_MAX_CELL) xa_nil))) nd_is_within)))
theorem bn_3 {K : PySem.W.Frag} {f : Addr} {fd : FuncData} (F : FunD K "is_cell" "is_cell" (defArgs (top 12)) (defBody (top 12)) (defScope (top 12)) [] [] f fd) : Binds K fd ["value"] [] := F.bindsN fun _ _ _ _ _ _ us hl => match us, hl with | [_], _ => rfl
theorem c_3 {P : Program} {w : World} {mg : Str → Option Value} {base : Heap} {W : Wd} (h : Wk P w mg base W) : Cal P w mg base 3 "is_cell" 1 W f_is_cell := by
  obtain ⟨fd, F⟩ := h.def_ 3 _ rfl
  exact ⟨_, fd, ["value"], rfl, fn_3 h F, h.x_3, F.kp, bn_3 F⟩
theorem fn_4 {P : Program} {w : World} {mg : Str → Option Value} {base : Heap} {W : Wd} (h : Wk P w mg base W) {fd : FuncData} (F : FunD W.K "are_cells_in" "are_cells_in" (defArgs (top 13)) (defBody (top 13)) (defScope (top 13)) [] [] (He.ga W.K "are_cells_in") fd) : FnG P w W.K mg base 4 (He.ga W.K "are_cells_in") fd ["value", "least", "most"] (spN W 3 f_are_cells_in) := by
  have hc_3 := c_3 h
  refine fn_ok (N := ["value", "least", "most", "cell"]) (d := d_are_cells_in) rfl F ⟨rfl, rfl, rfl, by decide +kernel, rfl, by decide +kernel, by decide +kernel⟩ (.refl _) fun cdv A outer s H E hr J2 => ?_
  exact (ys_cons J2.toXJ (ys_if J2.toXJ (xw_or J2.toXJ (xt_not J2.toXJ (xt_val J2.toXJ (xe_isi (ty := .tuple) J2.toXJ lk_sc_4_isinstance h.g.b_isinstance lk_sc_4_tuple h.g.b_tuple bt_tuple (by decide) (xe_var (i := 0) rfl (.inl lk_sc_4_value) nd_value nc_value) nn_tuple nd_tuple))) (xw_or1 (xt_not J2.toXJ (xt_chain J2.toXJ op_leA op_leA ok_cmp ok_cmp (xe_var (i := 1) rfl (.inl lk_sc_4_least) nd_least nc_least) (xe_callB J2.toXJ call_len (by rw [← J2.toXJ.K]; exact ok_len) lk_sc_4_len h.g.b_len bt_len (xa_cons J2.toXJ (xe_var (i := 0) rfl (.inl lk_sc_4_value) nd_value nc_value) xa_nil) nn_len nd_len) (xe_var (i := 2) rfl (.inl lk_sc_4_most) nd_most nc_most) (by rfl))))).pt (ys_one (ys_ret J2.toXJ xe_bl)) ys_nil) (ys_one (ys_ret J2.toXJ (xe_callB J2.toXJ (cr_all J2.cm) (by rw [← J2.toXJ.K]; exact ok_bls) lk_sc_4_all h.g.b_all bt_all (xa_cons J2.toXJ (xc_lc J2  (xi_val J2.toXJ (xe_var (i := 0) rfl (.inl lk_sc_4_value) nd_value nc_value)) (own := [("cell", 3)]) (by kernel_rfl) (by rfl) (fun s H C cl fp B2 => (yg_nm (i := 3) B2.nd rfl (.inl (by kernel_rfl)) (.inr (by kernel_rfl)))) (fun s H C cl fp B2 => pts_yes) (fun s H C cl fp B2 => (xe_call B2 (hc_3.mono (by decide)) hr (gl_of (by kernel_rfl)) (xa_cons B2.toXJ (xe_var (i := 3) rfl (.inl (by kernel_rfl)) nd_cell nc_cell) xa_nil) nd_is_cell))) xa_nil) nn_all nd_all))))
theorem bn_4 {K : PySem.W.Frag} {f : Addr} {fd : FuncData} (F : FunD K "are_cells_in" "are_cells_in" (defArgs (top 13)) (defBody (top 13)) (defScope (top 13)) [] [] f fd) : Binds K fd ["value", "least", "most"] [] := F.bindsN fun _ _ _ _ _ _ us hl => match us, hl with | [_, _, _], _ => rfl
theorem c_4 {P : Program} {w : World} {mg : Str → Option Value} {base : Heap} {W : Wd} (h : Wk P w mg base W) : Cal P w mg base 4 "are_cells_in" 3 W f_are_cells_in := by
  obtain ⟨fd, F⟩ := h.def_ 4 _ rfl
  exact ⟨_, fd, ["value", "least", "most"], rfl, fn_4 h F, h.x_4, F.kp, bn_4 F⟩
theorem fn_5 {P : Program} {w : World} {mg : Str → Option Value} {base : Heap} {W : Wd} (h : Wk P w mg base W) {fd : FuncData} (F : FunD W.K "back_of" "back_of" (defArgs (top 15)) (defBody (top 15)) (defScope (top 15)) [] [] (He.ga W.K "back_of") fd) : FnG P w W.K mg base 1 (He.ga W.K "back_of") fd ["cell"] (spN W 1 f_back_of) := by
  refine fn_ok (N := ["cell", "found", "here", "left"]) (d := d_back_of) rfl F ⟨rfl, rfl, rfl, by decide +kernel, rfl, by decide +kernel, by decide +kernel⟩ (.refl _) fun cdv A outer s H E hr J2 => ?_
  exact (ys_cons J2.toXJ (ys_par3 (i := 1) (j := 2) (l := 3) J2.toXJ J2.cm J2.nd rfl rfl rfl (by decide) (by decide) (by decide) lk_sc_5_found lk_sc_5_here lk_sc_5_left xe_int (xe_bin J2.toXJ op_mod ok_mod (xe_var (i := 0) rfl (.inl lk_sc_5_cell) nd_cell nc_cell) (xe_gint lk_sc_5_PRIME h.g.PRIME nd_PRIME)) (xe_bin J2.toXJ op_subT ok_sub (xe_gint lk_sc_5_PRIME h.g.PRIME nd_PRIME) xe_int) (by rfl)) (ys_cons J2.toXJ (ys_while _ J2 (xt_cmp J2.toXJ op_gtA ok_cmp (xe_var (i := 3) rfl (.inl lk_sc_5_left) nd_left nc_left) xe_int (nomark _)) (ys_cons J2.toXJ (ys_if J2.toXJ (xt_cmp J2.toXJ (op_eqA hr.units) (by rw [← J2.toXJ.K]; exact ok_eq) (xe_bin J2.toXJ op_mod ok_mod (xe_var (i := 3) rfl (.inl lk_sc_5_left) nd_left nc_left) xe_int) xe_int (nomark _)) (ys_one (ys_set (i := 1) J2.toXJ J2.nd rfl (.inl lk_sc_5_found) (xe_bin J2.toXJ op_mod ok_mod (xe_bin J2.toXJ op_mulA (by rw [← J2.toXJ.K]; exact ok_mul) (xe_var (i := 1) rfl (.inl lk_sc_5_found) nd_found nc_found) (xe_var (i := 2) rfl (.inl lk_sc_5_here) nd_here nc_here)) (xe_gint lk_sc_5_PRIME h.g.PRIME nd_PRIME)) (by rfl) (.inl rfl))) ys_nil) (ys_one (ys_par (i := 2) (j := 3) J2.toXJ J2.cm J2.nd rfl rfl (by decide) lk_sc_5_here lk_sc_5_left (xe_bin J2.toXJ op_mod ok_mod (xe_bin J2.toXJ op_mulA (by rw [← J2.toXJ.K]; exact ok_mul) (xe_var (i := 2) rfl (.inl lk_sc_5_here) nd_here nc_here) (xe_var (i := 2) rfl (.inl lk_sc_5_here) nd_here nc_here)) (xe_gint lk_sc_5_PRIME h.g.PRIME nd_PRIME)) (xe_bin J2.toXJ op_fdivW ok_fdiv (xe_var (i := 3) rfl (.inl lk_sc_5_left) nd_left nc_left) xe_int) (by rfl))))) (ys_one (ys_ret J2.toXJ (xe_var (i := 1) rfl (.inl lk_sc_5_found) nd_found nc_found)))))
theorem bn_5 {K : PySem.W.Frag} {f : Addr} {fd : FuncData} (F : FunD K "back_of" "back_of" (defArgs (top 15)) (defBody (top 15)) (defScope (top 15)) [] [] f fd) : Binds K fd ["cell"] [] := F.bindsN fun _ _ _ _ _ _ us hl => match us, hl with | [_], _ => rfl
theorem c_5 {P : Program} {w : World} {mg : Str → Option Value} {base : Heap} {W : Wd} (h : Wk P w mg base W) : Cal P w mg base 1 "back_of" 1 W f_back_of := by
  obtain ⟨fd, F⟩ := h.def_ 5 _ rfl
  exact ⟨_, fd, ["cell"], rfl, fn_5 h F, h.x_5, F.kp, bn_5 F⟩
theorem fn_6 {P : Program} {w : World} {mg : Str → Option Value} {base : Heap} {W : Wd} (h : Wk P w mg base W) {fd : FuncData} (F : FunD W.K "trimmed" "trimmed" (defArgs (top 16)) (defBody (top 16)) (defScope (top 16)) [] [] (He.ga W.K "trimmed") fd) : FnG P w W.K mg base 1 (He.ga W.K "trimmed") fd ["cells"] (spN W 1 f_trimmed) := by
  refine fn_ok (N := ["cells", "size"]) (d := d_trimmed) rfl F ⟨rfl, rfl, rfl, by decide +kernel, rfl, by decide +kernel, by decide +kernel⟩ (.refl _) fun cdv A outer s H E hr J2 => ?_
  exact (ys_cons J2.toXJ (ys_set (i := 1) J2.toXJ J2.nd rfl (.inl lk_sc_6_size) (xe_callB J2.toXJ call_len (by rw [← J2.toXJ.K]; exact ok_len) lk_sc_6_len h.g.b_len bt_len (xa_cons J2.toXJ (xe_var (i := 0) rfl (.inl lk_sc_6_cells) nd_cells nc_cells) xa_nil) nn_len nd_len) (by rfl) (.inl rfl)) (ys_cons J2.toXJ (ys_while _ J2 (xw_and J2.toXJ (xt_cmp J2.toXJ op_gtA ok_cmp (xe_var (i := 1) rfl (.inl lk_sc_6_size) nd_size nc_size) xe_int (nomark _)) (xw_and1 (xt_cmp J2.toXJ (op_eqA hr.units) (by rw [← J2.toXJ.K]; exact ok_eq) (xe_ix J2.toXJ (xe_var (i := 0) rfl (.inl lk_sc_6_cells) nd_cells nc_cells) (xe_bin J2.toXJ op_subT ok_sub (xe_var (i := 1) rfl (.inl lk_sc_6_size) nd_size nc_size) xe_int)) xe_int (nomark _)))).pt (ys_one (ys_aug (i := 1) J2.toXJ J2.nd rfl (.inl lk_sc_6_size) xe_int ip_sub ok_ipSub (.inl rfl)))) (ys_one (ys_ret J2.toXJ (xe_callTy J2.toXJ call_tuple_of (by rw [← J2.toXJ.K]; exact ok_tupleA) lk_sc_6_tuple h.g.b_tuple bt_tuple (xa_cons J2.toXJ (xe_sl J2.toXJ (xe_var (i := 0) rfl (.inl lk_sc_6_cells) nd_cells nc_cells) xo_none (xo_some J2.toXJ (xe_var (i := 1) rfl (.inl lk_sc_6_size) nd_size nc_size))) xa_nil) nn_tuple nd_tuple)))))
theorem bn_6 {K : PySem.W.Frag} {f : Addr} {fd : FuncData} (F : FunD K "trimmed" "trimmed" (defArgs (top 16)) (defBody (top 16)) (defScope (top 16)) [] [] f fd) : Binds K fd ["cells"] [] := F.bindsN fun _ _ _ _ _ _ us hl => match us, hl with | [_], _ => rfl
theorem c_6 {P : Program} {w : World} {mg : Str → Option Value} {base : Heap} {W : Wd} (h : Wk P w mg base W) : Cal P w mg base 1 "trimmed" 1 W f_trimmed := by
  obtain ⟨fd, F⟩ := h.def_ 6 _ rfl
  exact ⟨_, fd, ["cells"], rfl, fn_6 h F, h.x_6, F.kp, bn_6 F⟩
theorem fn_7 {P : Program} {w : World} {mg : Str → Option Value} {base : Heap} {W : Wd} (h : Wk P w mg base W) {fd : FuncData} (F : FunD W.K "value_in" "value_in" (defArgs (top 17)) (defBody (top 17)) (defScope (top 17)) [] [] (He.ga W.K "value_in") fd) : FnG P w W.K mg base 1 (He.ga W.K "value_in") fd ["poly", "cell"] (spN W 2 f_value_in) := by
  refine fn_ok (N := ["poly", "cell", "found", "number"]) (d := d_value_in) rfl F ⟨rfl, rfl, rfl, by decide +kernel, rfl, by decide +kernel, by decide +kernel⟩ (r_value_in) fun cdv A outer s H E hr J2 => ?_
  exact (ys_cons J2.toXJ (ys_set (i := 2) J2.toXJ J2.nd rfl (.inl lk_sc_7_found) xe_int (by rfl) (.inl rfl)) (ys_cons J2.toXJ (ys_for J2 (xi_val J2.toXJ (xe_revT J2.toXJ (xe_var (i := 0) rfl (.inl lk_sc_7_poly) nd_poly nc_poly))) (yg_nm (i := 3) J2.nd rfl (.inl lk_sc_7_number) (.inl rfl)) (ys_one (ys_set (i := 2) J2.toXJ J2.nd rfl (.inl lk_sc_7_found) (xe_bin J2.toXJ op_mod ok_mod (xe_bin J2.toXJ op_addA (by rw [← J2.toXJ.K]; exact ok_add) (xe_bin J2.toXJ op_mulA (by rw [← J2.toXJ.K]; exact ok_mul) (xe_var (i := 2) rfl (.inl lk_sc_7_found) nd_found nc_found) (xe_var (i := 1) rfl (.inl lk_sc_7_cell) nd_cell nc_cell)) (xe_var (i := 3) rfl (.inl lk_sc_7_number) nd_number nc_number)) (xe_gint lk_sc_7_PRIME h.g.PRIME nd_PRIME)) (by rfl) (.inl rfl)))) (ys_one (ys_ret J2.toXJ (xe_var (i := 2) rfl (.inl lk_sc_7_found) nd_found nc_found)))))
theorem bn_7 {K : PySem.W.Frag} {f : Addr} {fd : FuncData} (F : FunD K "value_in" "value_in" (defArgs (top 17)) (defBody (top 17)) (defScope (top 17)) [] [] f fd) : Binds K fd ["poly", "cell"] [] := F.bindsN fun _ _ _ _ _ _ us hl => match us, hl with | [_, _], _ => rfl
theorem c_7 {P : Program} {w : World} {mg : Str → Option Value} {base : Heap} {W : Wd} (h : Wk P w mg base W) : Cal P w mg base 1 "value_in" 2 W f_value_in := by
  obtain ⟨fd, F⟩ := h.def_ 7 _ rfl
  exact ⟨_, fd, ["poly", "cell"], rfl, fn_7 h F, h.x_7, F.kp, bn_7 F⟩
theorem fn_8 {P : Program} {w : World} {mg : Str → Option Value} {base : Heap} {W : Wd} (h : Wk P w mg base W) {fd : FuncData} (F : FunD W.K "sum_in" "sum_in" (defArgs (top 18)) (defBody (top 18)) (defScope (top 18)) [] [] (He.ga W.K "sum_in") fd) : FnG P w W.K mg base 2 (He.ga W.K "sum_in") fd ["one", "other"] (spN W 2 f_sum_in) := by
  have hc_6 := c_6 h
  refine fn_ok (N := ["one", "other", "size", "left", "right", "poly", "a", "b"]) (d := d_sum_in) rfl F ⟨rfl, rfl, rfl, by decide +kernel, rfl, by decide +kernel, by decide +kernel⟩ (r_sum_in) fun cdv A outer s H E hr J2 => ?_
  exact (ys_cons J2.toXJ (ys_set (i := 2) J2.toXJ J2.nd rfl (.inr lk_sc_8_size) (xe_callB J2.toXJ (CallR.or (call_max2 J2.cm) (cr_max J2.cm)) (by rw [← J2.toXJ.K]; exact ok_max) lk_sc_8_max h.g.b_max bt_max (xa_cons J2.toXJ (xe_callB J2.toXJ call_len (by rw [← J2.toXJ.K]; exact ok_len) lk_sc_8_len h.g.b_len bt_len (xa_cons J2.toXJ (xe_var (i := 0) rfl (.inl lk_sc_8_one) nd_one nc_one) xa_nil) nn_len nd_len) (xa_cons J2.toXJ (xe_callB J2.toXJ call_len (by rw [← J2.toXJ.K]; exact ok_len) lk_sc_8_len h.g.b_len bt_len (xa_cons J2.toXJ (xe_var (i := 1) rfl (.inl lk_sc_8_other) nd_other nc_other) xa_nil) nn_len nd_len) xa_nil)) nn_max nd_max) (by rfl) (.inl rfl)) (ys_cons J2.toXJ (ys_unpL J2.toXJ J2.cm (xc_lc J2  (xi_val J2.toXJ (xe_tup J2.toXJ (xa_cons J2.toXJ (xe_var (i := 0) rfl (.inl lk_sc_8_one) nd_one nc_one) (xa_cons J2.toXJ (xe_var (i := 1) rfl (.inl lk_sc_8_other) nd_other nc_other) xa_nil)))) (own := [("poly", 5)]) (by kernel_rfl) (by rfl) (fun s H C cl fp B2 => (yg_nm (i := 5) B2.nd rfl (.inl (by kernel_rfl)) (.inr (by kernel_rfl)))) (fun s H C cl fp B2 => pts_yes) (fun s H C cl fp B2 => (xe_lst B2.toXJ (xa_star B2 (xe_var (i := 5) rfl (.inl (by kernel_rfl)) nd_poly nc_poly) (xa_star B2 (xe_bin B2.toXJ op_mulA (by rw [← B2.toXJ.K]; exact ok_mul) (xe_lst B2.toXJ (xa_cons B2.toXJ xe_int xa_nil)) (xe_bin B2.toXJ op_subT ok_sub (xe_var (i := 2) rfl (.inr (.inl (by kernel_rfl))) nd_size nc_size) (xe_callB B2.toXJ call_len (by rw [← B2.toXJ.K]; exact ok_len) (gl_of (by kernel_rfl)) h.g.b_len bt_len (xa_cons B2.toXJ (xe_var (i := 5) rfl (.inl (by kernel_rfl)) nd_poly nc_poly) xa_nil) nn_len nd_len))) xa_nil))))) (ygs_cons (yg_nm (i := 3) J2.nd rfl (.inl lk_sc_8_left) (.inl rfl)) (ygs_cons (yg_nm (i := 4) J2.nd rfl (.inl lk_sc_8_right) (.inl rfl)) ygs_nil))) (ys_one (ys_ret J2.toXJ (xe_call J2 (hc_6.mono (by decide)) hr lk_sc_8_trimmed (xa_cons J2.toXJ (xc_lc J2  (xi_zip J2.toXJ lk_sc_8_zip h.g.b_zip (xa_cons J2.toXJ (xe_var (i := 3) rfl (.inl lk_sc_8_left) nd_left nc_left) (xa_cons J2.toXJ (xe_var (i := 4) rfl (.inl lk_sc_8_right) nd_right nc_right) xa_nil))) (own := [("a", 6), ("b", 7)]) (by kernel_rfl) (by rfl) (fun s H C cl fp B2 => (yg_tp B2.cm (ygs_cons (yg_nm (i := 6) B2.nd rfl (.inl (by kernel_rfl)) (.inr (by kernel_rfl))) (ygs_cons (yg_nm (i := 7) B2.nd rfl (.inl (by kernel_rfl)) (.inr (by kernel_rfl))) ygs_nil)))) (fun s H C cl fp B2 => pts_yes) (fun s H C cl fp B2 => (xe_bin B2.toXJ op_mod ok_mod (xe_bin B2.toXJ op_addA (by rw [← B2.toXJ.K]; exact ok_add) (xe_var (i := 6) rfl (.inl (by kernel_rfl)) nd_a nc_a) (xe_var (i := 7) rfl (.inl (by kernel_rfl)) nd_b nc_b)) (xe_gint (gl_of (by kernel_rfl)) h.g.PRIME nd_PRIME)))) xa_nil) nd_trimmed)))))
theorem bn_8 {K : PySem.W.Frag} {f : Addr} {fd : FuncData} (F : FunD K "sum_in" "sum_in" (defArgs (top 18)) (defBody (top 18)) (defScope (top 18)) [] [] f fd) : Binds K fd ["one", "other"] [] := F.bindsN fun _ _ _ _ _ _ us hl => match us, hl with | [_, _], _ => rfl
theorem c_8 {P : Program} {w : World} {mg : Str → Option Value} {base : Heap} {W : Wd} (h : Wk P w mg base W) : Cal P w mg base 2 "sum_in" 2 W f_sum_in := by
  obtain ⟨fd, F⟩ := h.def_ 8 _ rfl
  exact ⟨_, fd, ["one", "other"], rfl, fn_8 h F, h.x_8, F.kp, bn_8 F⟩
theorem fn_9 {P : Program} {w : World} {mg : Str → Option Value} {base : Heap} {W : Wd} (h : Wk P w mg base W) {fd : FuncData} (F : FunD W.K "scaled_in" "scaled_in" (defArgs (top 19)) (defBody (top 19)) (defScope (top 19)) [] [] (He.ga W.K "scaled_in") fd) : FnG P w W.K mg base 2 (He.ga W.K "scaled_in") fd ["poly", "number"] (spN W 2 f_scaled_in) := by
  have hc_6 := c_6 h
  refine fn_ok (N := ["poly", "number", "entry"]) (d := d_scaled_in) rfl F ⟨rfl, rfl, rfl, by decide +kernel, rfl, by decide +kernel, by decide +kernel⟩ (r_scaled_in) fun cdv A outer s H E hr J2 => ?_
  exact (ys_one (ys_ret J2.toXJ (xe_call J2 (hc_6.mono (by decide)) hr lk_sc_9_trimmed (xa_cons J2.toXJ (xc_lc J2  (xi_val J2.toXJ (xe_var (i := 0) rfl (.inl lk_sc_9_poly) nd_poly nc_poly)) (own := [("entry", 2)]) (by kernel_rfl) (by rfl) (fun s H C cl fp B2 => (yg_nm (i := 2) B2.nd rfl (.inl (by kernel_rfl)) (.inr (by kernel_rfl)))) (fun s H C cl fp B2 => pts_yes) (fun s H C cl fp B2 => (xe_bin B2.toXJ op_mod ok_mod (xe_bin B2.toXJ op_mulA (by rw [← B2.toXJ.K]; exact ok_mul) (xe_var (i := 2) rfl (.inl (by kernel_rfl)) nd_entry nc_entry) (xe_var (i := 1) rfl (.inr (.inl (by kernel_rfl))) nd_number nc_number)) (xe_gint (gl_of (by kernel_rfl)) h.g.PRIME nd_PRIME)))) xa_nil) nd_trimmed)))
theorem bn_9 {K : PySem.W.Frag} {f : Addr} {fd : FuncData} (F : FunD K "scaled_in" "scaled_in" (defArgs (top 19)) (defBody (top 19)) (defScope (top 19)) [] [] f fd) : Binds K fd ["poly", "number"] [] := F.bindsN fun _ _ _ _ _ _ us hl => match us, hl with | [_, _], _ => rfl
theorem c_9 {P : Program} {w : World} {mg : Str → Option Value} {base : Heap} {W : Wd} (h : Wk P w mg base W) : Cal P w mg base 2 "scaled_in" 2 W f_scaled_in := by
  obtain ⟨fd, F⟩ := h.def_ 9 _ rfl
  exact ⟨_, fd, ["poly", "number"], rfl, fn_9 h F, h.x_9, F.kp, bn_9 F⟩
theorem fn_10 {P : Program} {w : World} {mg : Str → Option Value} {base : Heap} {W : Wd} (h : Wk P w mg base W) {fd : FuncData} (F : FunD W.K "product_in" "product_in" (defArgs (top 20)) (defBody (top 20)) (defScope (top 20)) [] [] (He.ga W.K "product_in") fd) : FnG P w W.K mg base 2 (He.ga W.K "product_in") fd ["one", "other"] (spN W 2 f_product_in) := by
  have hc_6 := c_6 h
  refine fn_ok (N := ["one", "other", "found", "at", "first", "to", "second"]) (d := d_product_in) rfl F ⟨rfl, rfl, rfl, by decide +kernel, rfl, by decide +kernel, by decide +kernel⟩ (r_product_in) fun cdv A outer s H E hr J2 => ?_
  exact (ys_cons J2.toXJ (ys_set (i := 2) J2.toXJ J2.nd rfl (.inl lk_sc_10_found) (xe_bin J2.toXJ op_mulA (by rw [← J2.toXJ.K]; exact ok_mul) (xe_lst J2.toXJ (xa_cons J2.toXJ xe_int xa_nil)) (xe_bin J2.toXJ op_addA (by rw [← J2.toXJ.K]; exact ok_add) (xe_callB J2.toXJ call_len (by rw [← J2.toXJ.K]; exact ok_len) lk_sc_10_len h.g.b_len bt_len (xa_cons J2.toXJ (xe_var (i := 0) rfl (.inl lk_sc_10_one) nd_one nc_one) xa_nil) nn_len nd_len) (xe_callB J2.toXJ call_len (by rw [← J2.toXJ.K]; exact ok_len) lk_sc_10_len h.g.b_len bt_len (xa_cons J2.toXJ (xe_var (i := 1) rfl (.inl lk_sc_10_other) nd_other nc_other) xa_nil) nn_len nd_len))) (by rfl) (.inl rfl)) (ys_cons J2.toXJ (ys_for J2 (xi_enum J2.toXJ lk_sc_10_enumerate h.g.b_enumerate (xa_cons J2.toXJ (xe_var (i := 0) rfl (.inl lk_sc_10_one) nd_one nc_one) xa_nil)) (yg_tp J2.cm (ygs_cons (yg_nm (i := 3) J2.nd rfl (.inl lk_sc_10_at) (.inl rfl)) (ygs_cons (yg_nm (i := 4) J2.nd rfl (.inl lk_sc_10_first) (.inl rfl)) ygs_nil))) (ys_one (ys_for J2 (xi_enum J2.toXJ lk_sc_10_enumerate h.g.b_enumerate (xa_cons J2.toXJ (xe_var (i := 1) rfl (.inl lk_sc_10_other) nd_other nc_other) xa_nil)) (yg_tp J2.cm (ygs_cons (yg_nm (i := 5) J2.nd rfl (.inl lk_sc_10_to) (.inl rfl)) (ygs_cons (yg_nm (i := 6) J2.nd rfl (.inl lk_sc_10_second) (.inl rfl)) ygs_nil))) (ys_one (ys_sub J2.toXJ set_list ok_setL (xe_var (i := 2) rfl (.inl lk_sc_10_found) nd_found nc_found) (xe_bin J2.toXJ op_addA (by rw [← J2.toXJ.K]; exact ok_add) (xe_var (i := 3) rfl (.inl lk_sc_10_at) nd_at nc_at) (xe_var (i := 5) rfl (.inl lk_sc_10_to) nd_to nc_to)) (xe_bin J2.toXJ op_mod ok_mod (xe_bin J2.toXJ op_addA (by rw [← J2.toXJ.K]; exact ok_add) (xe_ix J2.toXJ (xe_var (i := 2) rfl (.inl lk_sc_10_found) nd_found nc_found) (xe_bin J2.toXJ op_addA (by rw [← J2.toXJ.K]; exact ok_add) (xe_var (i := 3) rfl (.inl lk_sc_10_at) nd_at nc_at) (xe_var (i := 5) rfl (.inl lk_sc_10_to) nd_to nc_to))) (xe_bin J2.toXJ op_mulA (by rw [← J2.toXJ.K]; exact ok_mul) (xe_var (i := 4) rfl (.inl lk_sc_10_first) nd_first nc_first) (xe_var (i := 6) rfl (.inl lk_sc_10_second) nd_second nc_second))) (xe_gint lk_sc_10_PRIME h.g.PRIME nd_PRIME))))))) (ys_one (ys_ret J2.toXJ (xe_call J2 (hc_6.mono (by decide)) hr lk_sc_10_trimmed (xa_cons J2.toXJ (xe_var (i := 2) rfl (.inl lk_sc_10_found) nd_found nc_found) xa_nil) nd_trimmed)))))
theorem bn_10 {K : PySem.W.Frag} {f : Addr} {fd : FuncData} (F : FunD K "product_in" "product_in" (defArgs (top 20)) (defBody (top 20)) (defScope (top 20)) [] [] f fd) : Binds K fd ["one", "other"] [] := F.bindsN fun _ _ _ _ _ _ us hl => match us, hl with | [_, _], _ => rfl
theorem c_10 {P : Program} {w : World} {mg : Str → Option Value} {base : Heap} {W : Wd} (h : Wk P w mg base W) : Cal P w mg base 2 "product_in" 2 W f_product_in := by
  obtain ⟨fd, F⟩ := h.def_ 10 _ rfl
  exact ⟨_, fd, ["one", "other"], rfl, fn_10 h F, h.x_10, F.kp, bn_10 F⟩
theorem fn_11 {P : Program} {w : World} {mg : Str → Option Value} {base : Heap} {W : Wd} (h : Wk P w mg base W) {fd : FuncData} (F : FunD W.K "none_in" "none_in" (defArgs (top 21)) (defBody (top 21)) (defScope (top 21)) [] [] (He.ga W.K "none_in") fd) : FnG P w W.K mg base 3 (He.ga W.K "none_in") fd ["places"] (spN W 1 f_none_in) := by
  have hc_10 := c_10 h
  refine fn_ok (N := ["places", "found", "place"]) (d := d_none_in) rfl F ⟨rfl, rfl, rfl, by decide +kernel, rfl, by decide +kernel, by decide +kernel⟩ (.refl _) fun cdv A outer s H E hr J2 => ?_
  exact (ys_cons J2.toXJ (ys_set (i := 1) J2.toXJ J2.nd rfl (.inl lk_sc_11_found) (xe_tup J2.toXJ (xa_cons J2.toXJ xe_int xa_nil)) (by rfl) (.inl rfl)) (ys_cons J2.toXJ (ys_for J2 (xi_val J2.toXJ (xe_var (i := 0) rfl (.inl lk_sc_11_places) nd_places nc_places)) (yg_nm (i := 2) J2.nd rfl (.inl lk_sc_11_place) (.inl rfl)) (ys_one (ys_set (i := 1) J2.toXJ J2.nd rfl (.inl lk_sc_11_found) (xe_call J2 (hc_10.mono (by decide)) hr lk_sc_11_product_in (xa_cons J2.toXJ (xe_var (i := 1) rfl (.inl lk_sc_11_found) nd_found nc_found) (xa_cons J2.toXJ (xe_tup J2.toXJ (xa_cons J2.toXJ (xe_bin J2.toXJ op_mod ok_mod (xe_bin J2.toXJ op_subT ok_sub (xe_gint lk_sc_11_PRIME h.g.PRIME nd_PRIME) (xe_var (i := 2) rfl (.inl lk_sc_11_place) nd_place nc_place)) (xe_gint lk_sc_11_PRIME h.g.PRIME nd_PRIME)) (xa_cons J2.toXJ xe_int xa_nil))) xa_nil)) nd_product_in) (by rfl) (.inl rfl)))) (ys_one (ys_ret J2.toXJ (xe_var (i := 1) rfl (.inl lk_sc_11_found) nd_found nc_found)))))
theorem bn_11 {K : PySem.W.Frag} {f : Addr} {fd : FuncData} (F : FunD K "none_in" "none_in" (defArgs (top 21)) (defBody (top 21)) (defScope (top 21)) [] [] f fd) : Binds K fd ["places"] [] := F.bindsN fun _ _ _ _ _ _ us hl => match us, hl with | [_], _ => rfl
theorem c_11 {P : Program} {w : World} {mg : Str → Option Value} {base : Heap} {W : Wd} (h : Wk P w mg base W) : Cal P w mg base 3 "none_in" 1 W f_none_in := by
  obtain ⟨fd, F⟩ := h.def_ 11 _ rfl
  exact ⟨_, fd, ["places"], rfl, fn_11 h F, h.x_11, F.kp, bn_11 F⟩
theorem fn_12 {P : Program} {w : World} {mg : Str → Option Value} {base : Heap} {W : Wd} (h : Wk P w mg base W) {fd : FuncData} (F : FunD W.K "through_in" "through_in" (defArgs (top 22)) (defBody (top 22)) (defScope (top 22)) [] [] (He.ga W.K "through_in") fd) : FnG P w W.K mg base 3 (He.ga W.K "through_in") fd ["points"] (spN W 1 f_through_in) := by
  have hc_5 := c_5 h
  have hc_7 := c_7 h
  have hc_8 := c_8 h
  have hc_9 := c_9 h
  have hc_10 := c_10 h
  refine fn_ok (N := ["points", "found", "none", "place", "value", "lacking"]) (d := d_through_in) rfl F ⟨rfl, rfl, rfl, by decide +kernel, rfl, by decide +kernel, by decide +kernel⟩ (.refl _) fun cdv A outer s H E hr J2 => ?_
  exact (ys_cons J2.toXJ (ys_unp J2.toXJ (xe_tup J2.toXJ (xa_cons J2.toXJ (xe_tup J2.toXJ xa_nil) (xa_cons J2.toXJ (xe_tup J2.toXJ (xa_cons J2.toXJ xe_int xa_nil)) xa_nil))) (yg_tp J2.cm (ygs_cons (yg_nm (i := 1) J2.nd rfl (.inl lk_sc_12_found) (.inl rfl)) (ygs_cons (yg_nm (i := 2) J2.nd rfl (.inl lk_sc_12_none) (.inl rfl)) ygs_nil)))) (ys_cons J2.toXJ (ys_for J2 (xi_val J2.toXJ (xe_var (i := 0) rfl (.inl lk_sc_12_points) nd_points nc_points)) (yg_tp J2.cm (ygs_cons (yg_nm (i := 3) J2.nd rfl (.inl lk_sc_12_place) (.inl rfl)) (ygs_cons (yg_nm (i := 4) J2.nd rfl (.inl lk_sc_12_value) (.inl rfl)) ygs_nil))) (ys_cons J2.toXJ (ys_set (i := 5) J2.toXJ J2.nd rfl (.inl lk_sc_12_lacking) (xe_bin J2.toXJ op_mod ok_mod (xe_bin J2.toXJ op_mulA (by rw [← J2.toXJ.K]; exact ok_mul) (xe_bin J2.toXJ op_subT ok_sub (xe_var (i := 4) rfl (.inl lk_sc_12_value) nd_value nc_value) (xe_call J2 (hc_7.mono (by decide)) hr lk_sc_12_value_in (xa_cons J2.toXJ (xe_var (i := 1) rfl (.inl lk_sc_12_found) nd_found nc_found) (xa_cons J2.toXJ (xe_var (i := 3) rfl (.inl lk_sc_12_place) nd_place nc_place) xa_nil)) nd_value_in)) (xe_call J2 (hc_5.mono (by decide)) hr lk_sc_12_back_of (xa_cons J2.toXJ (xe_call J2 (hc_7.mono (by decide)) hr lk_sc_12_value_in (xa_cons J2.toXJ (xe_var (i := 2) rfl (.inl lk_sc_12_none) nd_none nc_none) (xa_cons J2.toXJ (xe_var (i := 3) rfl (.inl lk_sc_12_place) nd_place nc_place) xa_nil)) nd_value_in) xa_nil) nd_back_of)) (xe_gint lk_sc_12_PRIME h.g.PRIME nd_PRIME)) (by rfl) (.inl rfl)) (ys_cons J2.toXJ (ys_set (i := 1) J2.toXJ J2.nd rfl (.inl lk_sc_12_found) (xe_call J2 (hc_8.mono (by decide)) hr lk_sc_12_sum_in (xa_cons J2.toXJ (xe_var (i := 1) rfl (.inl lk_sc_12_found) nd_found nc_found) (xa_cons J2.toXJ (xe_call J2 (hc_9.mono (by decide)) hr lk_sc_12_scaled_in (xa_cons J2.toXJ (xe_var (i := 2) rfl (.inl lk_sc_12_none) nd_none nc_none) (xa_cons J2.toXJ (xe_var (i := 5) rfl (.inl lk_sc_12_lacking) nd_lacking nc_lacking) xa_nil)) nd_scaled_in) xa_nil)) nd_sum_in) (by rfl) (.inl rfl)) (ys_one (ys_set (i := 2) J2.toXJ J2.nd rfl (.inl lk_sc_12_none) (xe_call J2 (hc_10.mono (by decide)) hr lk_sc_12_product_in (xa_cons J2.toXJ (xe_var (i := 2) rfl (.inl lk_sc_12_none) nd_none nc_none) (xa_cons J2.toXJ (xe_tup J2.toXJ (xa_cons J2.toXJ (xe_bin J2.toXJ op_mod ok_mod (xe_bin J2.toXJ op_subT ok_sub (xe_gint lk_sc_12_PRIME h.g.PRIME nd_PRIME) (xe_var (i := 3) rfl (.inl lk_sc_12_place) nd_place nc_place)) (xe_gint lk_sc_12_PRIME h.g.PRIME nd_PRIME)) (xa_cons J2.toXJ xe_int xa_nil))) xa_nil)) nd_product_in) (by rfl) (.inl rfl)))))) (ys_one (ys_ret J2.toXJ (xe_var (i := 1) rfl (.inl lk_sc_12_found) nd_found nc_found)))))
theorem bn_12 {K : PySem.W.Frag} {f : Addr} {fd : FuncData} (F : FunD K "through_in" "through_in" (defArgs (top 22)) (defBody (top 22)) (defScope (top 22)) [] [] f fd) : Binds K fd ["points"] [] := F.bindsN fun _ _ _ _ _ _ us hl => match us, hl with | [_], _ => rfl
theorem c_12 {P : Program} {w : World} {mg : Str → Option Value} {base : Heap} {W : Wd} (h : Wk P w mg base W) : Cal P w mg base 3 "through_in" 1 W f_through_in := by
  obtain ⟨fd, F⟩ := h.def_ 12 _ rfl
  exact ⟨_, fd, ["points"], rfl, fn_12 h F, h.x_12, F.kp, bn_12 F⟩
theorem fn_13 {P : Program} {w : World} {mg : Str → Option Value} {base : Heap} {W : Wd} (h : Wk P w mg base W) {fd : FuncData} (F : FunD W.K "is_ascending_within" "is_ascending_within" (defArgs (top 23)) (defBody (top 23)) (defScope (top 23)) [] [] (He.ga W.K "is_ascending_within") fd) : FnG P w W.K mg base 3 (He.ga W.K "is_ascending_within") fd ["value", "size"] (spN W 2 f_is_ascending_within) := by
  have hc_1 := c_1 h
  refine fn_ok (N := ["value", "size", "one", "other"]) (d := d_is_ascending_within) rfl F ⟨rfl, rfl, rfl, by decide +kernel, rfl, by decide +kernel, by decide +kernel⟩ (.refl _) fun cdv A outer s H E hr J2 => ?_
  exact (ys_cons J2.toXJ (ys_if J2.toXJ (xw_or J2.toXJ (xt_not J2.toXJ (xt_val J2.toXJ (xe_isi (ty := .tuple) J2.toXJ lk_sc_13_isinstance h.g.b_isinstance lk_sc_13_tuple h.g.b_tuple bt_tuple (by decide) (xe_var (i := 0) rfl (.inl lk_sc_13_value) nd_value nc_value) nn_tuple nd_tuple))) (xw_or1 (xt_not J2.toXJ (xt_val J2.toXJ (xe_callB J2.toXJ (cr_all J2.cm) (by rw [← J2.toXJ.K]; exact ok_bls) lk_sc_13_all h.g.b_all bt_all (xa_cons J2.toXJ (xc_lc J2  (xi_val J2.toXJ (xe_var (i := 0) rfl (.inl lk_sc_13_value) nd_value nc_value)) (own := [("one", 2)]) (by kernel_rfl) (by rfl) (fun s H C cl fp B2 => (yg_nm (i := 2) B2.nd rfl (.inl (by kernel_rfl)) (.inr (by kernel_rfl)))) (fun s H C cl fp B2 => pts_yes) (fun s H C cl fp B2 => (xe_call B2 (hc_1.mono (by decide)) hr (gl_of (by kernel_rfl)) (xa_cons B2.toXJ (xe_var (i := 2) rfl (.inl (by kernel_rfl)) nd_one nc_one) (xa_cons B2.toXJ xe_int (xa_cons B2.toXJ (xe_bin B2.toXJ op_subT ok_sub (xe_var (i := 1) rfl (.inr (.inl (by kernel_rfl))) nd_size nc_size) xe_int) xa_nil))) nd_is_within))) xa_nil) nn_all nd_all))))).pt (ys_one (ys_ret J2.toXJ xe_bl)) ys_nil) (ys_one (ys_ret J2.toXJ (xe_callB J2.toXJ (cr_all J2.cm) (by rw [← J2.toXJ.K]; exact ok_bls) lk_sc_13_all h.g.b_all bt_all (xa_cons J2.toXJ (xc_lc J2  (xi_zip J2.toXJ lk_sc_13_zip h.g.b_zip (xa_cons J2.toXJ (xe_var (i := 0) rfl (.inl lk_sc_13_value) nd_value nc_value) (xa_cons J2.toXJ (xe_sl J2.toXJ (xe_var (i := 0) rfl (.inl lk_sc_13_value) nd_value nc_value) (xo_some J2.toXJ xe_int) xo_none) xa_nil))) (own := [("one", 2), ("other", 3)]) (by kernel_rfl) (by rfl) (fun s H C cl fp B2 => (yg_tp B2.cm (ygs_cons (yg_nm (i := 2) B2.nd rfl (.inl (by kernel_rfl)) (.inr (by kernel_rfl))) (ygs_cons (yg_nm (i := 3) B2.nd rfl (.inl (by kernel_rfl)) (.inr (by kernel_rfl))) ygs_nil)))) (fun s H C cl fp B2 => pts_yes) (fun s H C cl fp B2 => (xe_cmp B2.toXJ op_ltA ok_cmp (xe_var (i := 2) rfl (.inl (by kernel_rfl)) nd_one nc_one) (xe_var (i := 3) rfl (.inl (by kernel_rfl)) nd_other nc_other) (nomark _)))) xa_nil) nn_all nd_all))))
theorem bn_13 {K : PySem.W.Frag} {f : Addr} {fd : FuncData} (F : FunD K "is_ascending_within" "is_ascending_within" (defArgs (top 23)) (defBody (top 23)) (defScope (top 23)) [] [] f fd) : Binds K fd ["value", "size"] [] := F.bindsN fun _ _ _ _ _ _ us hl => match us, hl with | [_, _], _ => rfl
theorem c_13 {P : Program} {w : World} {mg : Str → Option Value} {base : Heap} {W : Wd} (h : Wk P w mg base W) : Cal P w mg base 3 "is_ascending_within" 2 W f_is_ascending_within := by
  obtain ⟨fd, F⟩ := h.def_ 13 _ rfl
  exact ⟨_, fd, ["value", "size"], rfl, fn_13 h F, h.x_13, F.kp, bn_13 F⟩
theorem fn_14 {P : Program} {w : World} {mg : Str → Option Value} {base : Heap} {W : Wd} (h : Wk P w mg base W) {fd : FuncData} (F : FunD W.K "text_in" "text_in" (defArgs (top 33)) (defBody (top 33)) (defScope (top 33)) [] [] (He.ga W.K "text_in") fd) : FnG P w W.K mg base 1 (He.ga W.K "text_in") fd ["cells"] (spN W 1 f_text_in) := by
  refine fn_ok (N := ["cells", "cell"]) (d := d_text_in) rfl F ⟨rfl, rfl, rfl, by decide +kernel, rfl, by decide +kernel, by decide +kernel⟩ (.refl _) fun cdv A outer s H E hr J2 => ?_
  exact (ys_one (ys_ret J2.toXJ (xe_met J2.toXJ PySem.F.plainAttrs_str PySem.F.slot_str_join PySem.F.type_str_join mt_join ty_str (by rw [← J2.toXJ.K]; exact ok_join) (xe_str (by kernel_rfl)) (xa_cons J2.toXJ (xc_lc J2  (xi_val J2.toXJ (xe_var (i := 0) rfl (.inl lk_sc_14_cells) nd_cells nc_cells)) (own := [("cell", 1)]) (by kernel_rfl) (by rfl) (fun s H C cl fp B2 => (yg_nm (i := 1) B2.nd rfl (.inl (by kernel_rfl)) (.inr (by kernel_rfl)))) (fun s H C cl fp B2 => pts_yes) (fun s H C cl fp B2 => (xe_js1 (xe_fmt B2.toXJ (xe_var (i := 1) rfl (.inl (by kernel_rfl)) nd_cell nc_cell) (xe_spec (by kernel_rfl)))))) xa_nil))))
theorem bn_14 {K : PySem.W.Frag} {f : Addr} {fd : FuncData} (F : FunD K "text_in" "text_in" (defArgs (top 33)) (defBody (top 33)) (defScope (top 33)) [] [] f fd) : Binds K fd ["cells"] [] := F.bindsN fun _ _ _ _ _ _ us hl => match us, hl with | [_], _ => rfl
theorem c_14 {P : Program} {w : World} {mg : Str → Option Value} {base : Heap} {W : Wd} (h : Wk P w mg base W) : Cal P w mg base 1 "text_in" 1 W f_text_in := by
  obtain ⟨fd, F⟩ := h.def_ 14 _ rfl
  exact ⟨_, fd, ["cells"], rfl, fn_14 h F, h.x_14, F.kp, bn_14 F⟩
theorem fn_15 {P : Program} {w : World} {mg : Str → Option Value} {base : Heap} {W : Wd} (h : Wk P w mg base W) {fd : FuncData} (F : FunD W.K "cells_told" "cells_told" (defArgs (top 34)) (defBody (top 34)) (defScope (top 34)) [] [] (He.ga W.K "cells_told") fd) : FnG P w W.K mg base 1 (He.ga W.K "cells_told") fd ["text"] (spN W 1 f_cells_told) := by
  refine fn_ok (N := ["text", "cells", "sign", "at", "cell"]) (d := d_cells_told) rfl F ⟨rfl, rfl, rfl, by decide +kernel, rfl, by decide +kernel, by decide +kernel⟩ (r_cells_told) fun cdv A outer s H E hr J2 => ?_
  exact (ys_cons J2.toXJ (ys_if J2.toXJ (xw_or J2.toXJ (xt_cmp J2.toXJ (op_neA hr.units) (by rw [← J2.toXJ.K]; exact ok_ne) (xe_bin J2.toXJ op_mod ok_mod (xe_callB J2.toXJ call_len (by rw [← J2.toXJ.K]; exact ok_len) lk_sc_15_len h.g.b_len bt_len (xa_cons J2.toXJ (xe_var (i := 0) rfl (.inr (.inl lk_sc_15_text)) nd_text nc_text) xa_nil) nn_len nd_len) (xe_gint lk_sc_15_DIGITS h.g.DIGITS nd_DIGITS)) xe_int (nomark _)) (xw_or1 (xt_not J2.toXJ (xt_val J2.toXJ (xe_callB J2.toXJ (cr_all J2.cm) (by rw [← J2.toXJ.K]; exact ok_bls) lk_sc_15_all h.g.b_all bt_all (xa_cons J2.toXJ (xc_lc J2  (xi_val J2.toXJ (xe_var (i := 0) rfl (.inr (.inl lk_sc_15_text)) nd_text nc_text)) (own := [("sign", 2)]) (by kernel_rfl) (by rfl) (fun s H C cl fp B2 => (yg_nm (i := 2) B2.nd rfl (.inl (by kernel_rfl)) (.inr (by kernel_rfl)))) (fun s H C cl fp B2 => pts_yes) (fun s H C cl fp B2 => (xe_cmp B2.toXJ (op_inK (u65 hr)) (by rw [← B2.toXJ.K]; exact ok_inK) (xe_var (i := 2) rfl (.inl (by kernel_rfl)) nd_sign nc_sign) (xe_gstr (by kernel_rfl) (gl_of (by kernel_rfl)) h.g.FIGURES nd_FIGURES) (by with_unfolding_all rfl)))) xa_nil) nn_all nd_all))))).pt (ys_one (ys_ret J2.toXJ xe_non)) ys_nil) (ys_cons J2.toXJ (ys_set (i := 1) J2.toXJ J2.nd rfl (.inl lk_sc_15_cells) (xe_callTy J2.toXJ call_tuple_of (by rw [← J2.toXJ.K]; exact ok_tupleA) lk_sc_15_tuple h.g.b_tuple bt_tuple (xa_cons J2.toXJ (xc_lc J2  (xi_rng3 J2.toXJ lk_sc_15_range h.g.b_range (xa_cons J2.toXJ xe_int (xa_cons J2.toXJ (xe_callB J2.toXJ call_len (by rw [← J2.toXJ.K]; exact ok_len) lk_sc_15_len h.g.b_len bt_len (xa_cons J2.toXJ (xe_var (i := 0) rfl (.inr (.inl lk_sc_15_text)) nd_text nc_text) xa_nil) nn_len nd_len) (xa_cons J2.toXJ (xe_gint lk_sc_15_DIGITS h.g.DIGITS nd_DIGITS) xa_nil)))) (own := [("at", 3)]) (by kernel_rfl) (by rfl) (fun s H C cl fp B2 => (yg_nm (i := 3) B2.nd rfl (.inl (by kernel_rfl)) (.inr (by kernel_rfl)))) (fun s H C cl fp B2 => pts_yes) (fun s H C cl fp B2 => (xe_callTy B2.toXJ call_intX ok_intX (gl_of (by kernel_rfl)) h.g.b_int bt_int (xa_cons B2.toXJ (xe_sl B2.toXJ (xe_var (i := 0) rfl (.inr (.inl (by kernel_rfl))) nd_text nc_text) (xo_some B2.toXJ (xe_var (i := 3) rfl (.inl (by kernel_rfl)) nd_at nc_at)) (xo_some B2.toXJ (xe_bin B2.toXJ op_addA (by rw [← B2.toXJ.K]; exact ok_add) (xe_var (i := 3) rfl (.inl (by kernel_rfl)) nd_at nc_at) (xe_gint (gl_of (by kernel_rfl)) h.g.DIGITS nd_DIGITS)))) xa_nil) nn_int nd_int))) xa_nil) nn_tuple nd_tuple) (by rfl) (.inl rfl)) (ys_one (ys_ret J2.toXJ (xe_if J2.toXJ (xt_val J2.toXJ (xe_callB J2.toXJ (cr_all J2.cm) (by rw [← J2.toXJ.K]; exact ok_bls) lk_sc_15_all h.g.b_all bt_all (xa_cons J2.toXJ (xc_lc J2  (xi_val J2.toXJ (xe_var (i := 1) rfl (.inl lk_sc_15_cells) nd_cells nc_cells)) (own := [("cell", 4)]) (by kernel_rfl) (by rfl) (fun s H C cl fp B2 => (yg_nm (i := 4) B2.nd rfl (.inl (by kernel_rfl)) (.inr (by kernel_rfl)))) (fun s H C cl fp B2 => pts_yes) (fun s H C cl fp B2 => (xe_cmp B2.toXJ op_ltA ok_cmp (xe_var (i := 4) rfl (.inl (by kernel_rfl)) nd_cell nc_cell) (xe_gint (gl_of (by kernel_rfl)) h.g.PRIME nd_PRIME) (nomark _)))) xa_nil) nn_all nd_all)) (xe_var (i := 1) rfl (.inl lk_sc_15_cells) nd_cells nc_cells) xe_non)))))
theorem bn_15 {K : PySem.W.Frag} {f : Addr} {fd : FuncData} (F : FunD K "cells_told" "cells_told" (defArgs (top 34)) (defBody (top 34)) (defScope (top 34)) [] [] f fd) : Binds K fd ["text"] [] := F.bindsN fun _ _ _ _ _ _ us hl => match us, hl with | [_], _ => rfl
theorem c_15 {P : Program} {w : World} {mg : Str → Option Value} {base : Heap} {W : Wd} (h : Wk P w mg base W) : Cal P w mg base 1 "cells_told" 1 W f_cells_told := by
  obtain ⟨fd, F⟩ := h.def_ 15 _ rfl
  exact ⟨_, fd, ["text"], rfl, fn_15 h F, h.x_15, F.kp, bn_15 F⟩
theorem fn_16 {P : Program} {w : World} {mg : Str → Option Value} {base : Heap} {W : Wd} (h : Wk P w mg base W) {fd : FuncData} (F : FunD W.K "window_at" "window_at" (defArgs (top 35)) (defBody (top 35)) (defScope (top 35)) [] [] (He.ga W.K "window_at") fd) : FnG P w W.K mg base 2 (He.ga W.K "window_at") fd ["text", "place"] (spN W 2 f_window_at) := by
  have hc_15 := c_15 h
  refine fn_ok (N := ["text", "place", "window"]) (d := d_window_at) rfl F ⟨rfl, rfl, rfl, by decide +kernel, rfl, by decide +kernel, by decide +kernel⟩ (r_window_at) fun cdv A outer s H E hr J2 => ?_
  exact (ys_cons J2.toXJ (ys_set (i := 2) J2.toXJ J2.nd rfl (.inl lk_sc_16_window) (xe_sl J2.toXJ (xe_var (i := 0) rfl (.inl lk_sc_16_text) nd_text nc_text) (xo_some J2.toXJ (xe_var (i := 1) rfl (.inl lk_sc_16_place) nd_place nc_place)) (xo_some J2.toXJ (xe_bin J2.toXJ op_addA (by rw [← J2.toXJ.K]; exact ok_add) (xe_var (i := 1) rfl (.inl lk_sc_16_place) nd_place nc_place) (xe_gint lk_sc_16_WINDOW_SIGNS h.g.WINDOW_SIGNS nd_WINDOW_SIGNS)))) (by rfl) (.inl rfl)) (ys_cons J2.toXJ (ys_if J2.toXJ (xw_or J2.toXJ (xt_cmp J2.toXJ op_ltA ok_cmp (xe_callB J2.toXJ call_len (by rw [← J2.toXJ.K]; exact ok_len) lk_sc_16_len h.g.b_len bt_len (xa_cons J2.toXJ (xe_var (i := 2) rfl (.inl lk_sc_16_window) nd_window nc_window) xa_nil) nn_len nd_len) (xe_gint lk_sc_16_WINDOW_SIGNS h.g.WINDOW_SIGNS nd_WINDOW_SIGNS) (nomark _)) (xw_or J2.toXJ (xt_cmp J2.toXJ (op_neA hr.units) (by rw [← J2.toXJ.K]; exact ok_ne) (xe_ix J2.toXJ (xe_var (i := 2) rfl (.inl lk_sc_16_window) nd_window nc_window) xe_int) (xe_gstr (by kernel_rfl) lk_sc_16_BEGIN h.g.BEGIN nd_BEGIN) (nomark _)) (xw_or1 (xt_cmp J2.toXJ (op_neA hr.units) (by rw [← J2.toXJ.K]; exact ok_ne) (xe_ix J2.toXJ (xe_var (i := 2) rfl (.inl lk_sc_16_window) nd_window nc_window) (xe_un J2.toXJ un_neg ok_neg xe_int)) (xe_gstr (by kernel_rfl) lk_sc_16_END h.g.END nd_END) (nomark _))))).pt (ys_one (ys_ret J2.toXJ xe_non)) ys_nil) (ys_one (ys_ret J2.toXJ (xe_call J2 (hc_15.mono (by decide)) hr lk_sc_16_cells_told (xa_cons J2.toXJ (xe_sl J2.toXJ (xe_var (i := 2) rfl (.inl lk_sc_16_window) nd_window nc_window) (xo_some J2.toXJ xe_int) (xo_some J2.toXJ (xe_un J2.toXJ un_neg ok_neg xe_int))) xa_nil) nd_cells_told)))))
theorem bn_16 {K : PySem.W.Frag} {f : Addr} {fd : FuncData} (F : FunD K "window_at" "window_at" (defArgs (top 35)) (defBody (top 35)) (defScope (top 35)) [] [] f fd) : Binds K fd ["text", "place"] [] := F.bindsN fun _ _ _ _ _ _ us hl => match us, hl with | [_, _], _ => rfl
theorem c_16 {P : Program} {w : World} {mg : Str → Option Value} {base : Heap} {W : Wd} (h : Wk P w mg base W) : Cal P w mg base 2 "window_at" 2 W f_window_at := by
  obtain ⟨fd, F⟩ := h.def_ 16 _ rfl
  exact ⟨_, fd, ["text", "place"], rfl, fn_16 h F, h.x_16, F.kp, bn_16 F⟩
theorem fn_17 {P : Program} {w : World} {mg : Str → Option Value} {base : Heap} {W : Wd} (h : Wk P w mg base W) {fd : FuncData} (F : FunD W.K "windows_found" "windows_found" (defArgs (top 36)) (defBody (top 36)) (defScope (top 36)) [] [] (He.ga W.K "windows_found") fd) : FnG P w W.K mg base 3 (He.ga W.K "windows_found") fd ["text"] (spN W 1 f_windows_found) := by
  have hc_16 := c_16 h
  refine fn_ok (N := ["text", "found", "place", "cells"]) (d := d_windows_found) rfl F ⟨rfl, rfl, rfl, by decide +kernel, rfl, by decide +kernel, by decide +kernel⟩ (r_windows_found) fun cdv A outer s H E hr J2 => ?_
  exact (ys_cons J2.toXJ (ys_par (i := 1) (j := 2) J2.toXJ J2.cm J2.nd rfl rfl (by decide) lk_sc_17_found lk_sc_17_place (xe_lst J2.toXJ xa_nil) (xe_met J2.toXJ PySem.F.plainAttrs_str PySem.F.slot_str_find PySem.F.type_str_find mt_find ty_str ok_find (xe_var (i := 0) rfl (.inl lk_sc_17_text) nd_text nc_text) (xa_cons J2.toXJ (xe_gstr (by kernel_rfl) lk_sc_17_BEGIN h.g.BEGIN nd_BEGIN) xa_nil)) (by rfl)) (ys_cons J2.toXJ (ys_while _ J2 (xt_cmp J2.toXJ op_geA ok_cmp (xe_var (i := 2) rfl (.inl lk_sc_17_place) nd_place nc_place) xe_int (nomark _)) (ys_cons J2.toXJ (ys_set (i := 3) J2.toXJ J2.nd rfl (.inl lk_sc_17_cells) (xe_call J2 (hc_16.mono (by decide)) hr lk_sc_17_window_at (xa_cons J2.toXJ (xe_var (i := 0) rfl (.inl lk_sc_17_text) nd_text nc_text) (xa_cons J2.toXJ (xe_var (i := 2) rfl (.inl lk_sc_17_place) nd_place nc_place) xa_nil)) nd_window_at) (by rfl) (.inl rfl)) (ys_cons J2.toXJ (ys_if J2.toXJ (xt_cmp J2.toXJ op_notN ok_notN (xe_var (i := 3) rfl (.inl lk_sc_17_cells) nd_cells nc_cells) xe_non (nomark _)) (ys_one (ys_expr J2.toXJ (xe_met J2.toXJ PySem.F.plainAttrs_list PySem.F.slot_list_append PySem.F.type_list_append mt_append ty_lst ok_append (xe_var (i := 1) rfl (.inl lk_sc_17_found) nd_found nc_found) (xa_cons J2.toXJ (xe_tup J2.toXJ (xa_cons J2.toXJ (xe_var (i := 2) rfl (.inl lk_sc_17_place) nd_place nc_place) (xa_cons J2.toXJ (xe_var (i := 3) rfl (.inl lk_sc_17_cells) nd_cells nc_cells) xa_nil))) xa_nil)))) ys_nil) (ys_one (ys_set (i := 2) J2.toXJ J2.nd rfl (.inl lk_sc_17_place) (xe_met J2.toXJ PySem.F.plainAttrs_str PySem.F.slot_str_find PySem.F.type_str_find mt_find3 ty_str ok_find3 (xe_var (i := 0) rfl (.inl lk_sc_17_text) nd_text nc_text) (xa_cons J2.toXJ (xe_gstr (by kernel_rfl) lk_sc_17_BEGIN h.g.BEGIN nd_BEGIN) (xa_cons J2.toXJ (xe_bin J2.toXJ op_addA (by rw [← J2.toXJ.K]; exact ok_add) (xe_var (i := 2) rfl (.inl lk_sc_17_place) nd_place nc_place) xe_int) xa_nil))) (by rfl) (.inl rfl)))))) (ys_one (ys_ret J2.toXJ (xe_var (i := 1) rfl (.inl lk_sc_17_found) nd_found nc_found)))))
theorem bn_17 {K : PySem.W.Frag} {f : Addr} {fd : FuncData} (F : FunD K "windows_found" "windows_found" (defArgs (top 36)) (defBody (top 36)) (defScope (top 36)) [] [] f fd) : Binds K fd ["text"] [] := F.bindsN fun _ _ _ _ _ _ us hl => match us, hl with | [_], _ => rfl
theorem c_17 {P : Program} {w : World} {mg : Str → Option Value} {base : Heap} {W : Wd} (h : Wk P w mg base W) : Cal P w mg base 3 "windows_found" 1 W f_windows_found := by
  obtain ⟨fd, F⟩ := h.def_ 17 _ rfl
  exact ⟨_, fd, ["text"], rfl, fn_17 h F, h.x_17, F.kp, bn_17 F⟩
theorem fn_18 {P : Program} {w : World} {mg : Str → Option Value} {base : Heap} {W : Wd} (h : Wk P w mg base W) {fd : FuncData} (F : FunD W.K "is_text" "is_text" (defArgs (top 37)) (defBody (top 37)) (defScope (top 37)) [] [] (He.ga W.K "is_text") fd) : FnG P w W.K mg base 1 (He.ga W.K "is_text") fd ["value"] (spN W 1 f_is_text) := by
  refine fn_ok (N := ["value", "sign"]) (d := d_is_text) rfl F ⟨rfl, rfl, rfl, by decide +kernel, rfl, by decide +kernel, by decide +kernel⟩ (r_is_text) fun cdv A outer s H E hr J2 => ?_
  exact (ys_cons J2.toXJ (ys_if J2.toXJ (xw_or J2.toXJ (xt_not J2.toXJ (xt_val J2.toXJ (xe_isi (ty := .str) J2.toXJ lk_sc_18_isinstance h.g.b_isinstance lk_sc_18_str h.g.b_str bt_str (by decide) (xe_var (i := 0) rfl (.inl lk_sc_18_value) nd_value nc_value) nn_str nd_str))) (xw_or1 (xt_cmp J2.toXJ op_gtA ok_cmp (xe_callB J2.toXJ call_len (by rw [← J2.toXJ.K]; exact ok_len) lk_sc_18_len h.g.b_len bt_len (xa_cons J2.toXJ (xe_var (i := 0) rfl (.inl lk_sc_18_value) nd_value nc_value) xa_nil) nn_len nd_len) (xe_gint lk_sc_18_MOST_SIGNS h.g.MOST_SIGNS nd_MOST_SIGNS) (nomark _)))).pt (ys_one (ys_ret J2.toXJ xe_bl)) ys_nil) (ys_one (ys_ret J2.toXJ (xe_callB J2.toXJ (cr_all J2.cm) (by rw [← J2.toXJ.K]; exact ok_bls) lk_sc_18_all h.g.b_all bt_all (xa_cons J2.toXJ (xc_lc J2  (xi_val J2.toXJ (xe_var (i := 0) rfl (.inl lk_sc_18_value) nd_value nc_value)) (own := [("sign", 1)]) (by kernel_rfl) (by rfl) (fun s H C cl fp B2 => (yg_nm (i := 1) B2.nd rfl (.inl (by kernel_rfl)) (.inr (by kernel_rfl)))) (fun s H C cl fp B2 => pts_yes) (fun s H C cl fp B2 => (xe_chain B2.toXJ op_leA op_leA ok_cmp ok_cmp (xe_gstr (by kernel_rfl) (gl_of (by kernel_rfl)) h.g.LEAST_SIGN nd_LEAST_SIGN) (xe_var (i := 1) rfl (.inl (by kernel_rfl)) nd_sign nc_sign) (xe_gstr (by kernel_rfl) (gl_of (by kernel_rfl)) h.g.GREATEST_SIGN nd_GREATEST_SIGN) (by rfl)))) xa_nil) nn_all nd_all))))
theorem bn_18 {K : PySem.W.Frag} {f : Addr} {fd : FuncData} (F : FunD K "is_text" "is_text" (defArgs (top 37)) (defBody (top 37)) (defScope (top 37)) [] [] f fd) : Binds K fd ["value"] [] := F.bindsN fun _ _ _ _ _ _ us hl => match us, hl with | [_], _ => rfl
theorem c_18 {P : Program} {w : World} {mg : Str → Option Value} {base : Heap} {W : Wd} (h : Wk P w mg base W) : Cal P w mg base 1 "is_text" 1 W f_is_text := by
  obtain ⟨fd, F⟩ := h.def_ 18 _ rfl
  exact ⟨_, fd, ["value"], rfl, fn_18 h F, h.x_18, F.kp, bn_18 F⟩
theorem fn_19 {P : Program} {w : World} {mg : Str → Option Value} {base : Heap} {W : Wd} (h : Wk P w mg base W) {fd : FuncData} (F : FunD W.K "require_text" "require_text" (defArgs (top 38)) (defBody (top 38)) (defScope (top 38)) [] [] (He.ga W.K "require_text") fd) : FnG P w W.K mg base 2 (He.ga W.K "require_text") fd ["value"] (spN W 1 f_require_text) := by
  have hc_18 := c_18 h
  refine fn_ok (N := ["value"]) (d := d_require_text) rfl F ⟨rfl, rfl, rfl, by decide +kernel, rfl, by decide +kernel, by decide +kernel⟩ (r_require_text) fun cdv A outer s H E hr J2 => ?_
  exact (ys_one (ys_if J2.toXJ (xt_not J2.toXJ (xt_val J2.toXJ (xe_call J2 (hc_18.mono (by decide)) hr lk_sc_19_is_text (xa_cons J2.toXJ (xe_var (i := 0) rfl (.inl lk_sc_19_value) nd_value nc_value) xa_nil) nd_is_text))) (ys_one (ys_raiseS J2 h.o_InvalidText h.c_InvalidText lk_sc_19_InvalidText (by rw [h.hca]; rfl) nd_InvalidText)) ys_nil))
theorem bn_19 {K : PySem.W.Frag} {f : Addr} {fd : FuncData} (F : FunD K "require_text" "require_text" (defArgs (top 38)) (defBody (top 38)) (defScope (top 38)) [] [] f fd) : Binds K fd ["value"] [] := F.bindsN fun _ _ _ _ _ _ us hl => match us, hl with | [_], _ => rfl
theorem c_19 {P : Program} {w : World} {mg : Str → Option Value} {base : Heap} {W : Wd} (h : Wk P w mg base W) : Cal P w mg base 2 "require_text" 1 W f_require_text := by
  obtain ⟨fd, F⟩ := h.def_ 19 _ rfl
  exact ⟨_, fd, ["value"], rfl, fn_19 h F, h.x_19, F.kp, bn_19 F⟩
theorem fn_20 {P : Program} {w : World} {mg : Str → Option Value} {base : Heap} {W : Wd} (h : Wk P w mg base W) {fd : FuncData} (F : FunD W.K "poly_of" "poly_of" (defArgs (top 44)) (defBody (top 44)) (defScope (top 44)) [] [] (He.ga W.K "poly_of") fd) : FnG P w W.K mg base 4 (He.ga W.K "poly_of") fd ["body"] (spN W 1 f_poly_of) := by
  have hc_12 := c_12 h
  refine fn_ok (N := ["body"]) (d := d_poly_of) rfl F ⟨rfl, rfl, rfl, by decide +kernel, rfl, by decide +kernel, by decide +kernel⟩ (.refl _) fun cdv A outer s H E hr J2 => ?_
  exact (ys_one (ys_ret J2.toXJ (xe_call J2 (hc_12.mono (by decide)) hr lk_sc_20_through_in (xa_cons J2.toXJ (xe_tupZip J2 lk_sc_20_tuple h.g.b_tuple lk_sc_20_zip h.g.b_zip (xa_cons J2.toXJ (xe_sl J2.toXJ (xe_gtup J2.toXJ lk_sc_20_PLACES h.t_PLACES nd_PLACES) xo_none (xo_some J2.toXJ (xe_gint lk_sc_20_BODY_CELLS h.g.BODY_CELLS nd_BODY_CELLS))) (xa_cons J2.toXJ (xe_var (i := 0) rfl (.inl lk_sc_20_body) nd_body nc_body) xa_nil))) xa_nil) nd_through_in)))
theorem bn_20 {K : PySem.W.Frag} {f : Addr} {fd : FuncData} (F : FunD K "poly_of" "poly_of" (defArgs (top 44)) (defBody (top 44)) (defScope (top 44)) [] [] f fd) : Binds K fd ["body"] [] := F.bindsN fun _ _ _ _ _ _ us hl => match us, hl with | [_], _ => rfl
theorem c_20 {P : Program} {w : World} {mg : Str → Option Value} {base : Heap} {W : Wd} (h : Wk P w mg base W) : Cal P w mg base 4 "poly_of" 1 W f_poly_of := by
  obtain ⟨fd, F⟩ := h.def_ 20 _ rfl
  exact ⟨_, fd, ["body"], rfl, fn_20 h F, h.x_20, F.kp, bn_20 F⟩
theorem fn_21 {P : Program} {w : World} {mg : Str → Option Value} {base : Heap} {W : Wd} (h : Wk P w mg base W) {fd : FuncData} (F : FunD W.K "cells_of" "cells_of" (defArgs (top 45)) (defBody (top 45)) (defScope (top 45)) [] [] (He.ga W.K "cells_of") fd) : FnG P w W.K mg base 5 (He.ga W.K "cells_of") fd ["body"] (spN W 1 f_cells_of) := by
  have hc_7 := c_7 h
  have hc_20 := c_20 h
  refine fn_ok (N := ["body", "poly", "place"]) (d := d_cells_of) rfl F ⟨rfl, rfl, rfl, by decide +kernel, rfl, by decide +kernel, by decide +kernel⟩ (.refl _) fun cdv A outer s H E hr J2 => ?_
  exact (ys_cons J2.toXJ (ys_set (i := 1) J2.toXJ J2.nd rfl (.inr lk_sc_21_poly) (xe_call J2 (hc_20.mono (by decide)) hr lk_sc_21_poly_of (xa_cons J2.toXJ (xe_var (i := 0) rfl (.inl lk_sc_21_body) nd_body nc_body) xa_nil) nd_poly_of) (by rfl) (.inl rfl)) (ys_one (ys_ret J2.toXJ (xe_tup J2.toXJ (xa_star J2 (xe_var (i := 0) rfl (.inl lk_sc_21_body) nd_body nc_body) (xa_star J2 (xc_lc J2  (xi_val J2.toXJ (xe_sl J2.toXJ (xe_gtup J2.toXJ lk_sc_21_PLACES h.t_PLACES nd_PLACES) (xo_some J2.toXJ (xe_gint lk_sc_21_BODY_CELLS h.g.BODY_CELLS nd_BODY_CELLS)) xo_none)) (own := [("place", 2)]) (by kernel_rfl) (by rfl) (fun s H C cl fp B2 => (yg_nm (i := 2) B2.nd rfl (.inl (by kernel_rfl)) (.inr (by kernel_rfl)))) (fun s H C cl fp B2 => pts_yes) (fun s H C cl fp B2 => (xe_call B2 (hc_7.mono (by decide)) hr (gl_of (by kernel_rfl)) (xa_cons B2.toXJ (xe_var (i := 1) rfl (.inr (.inl (by kernel_rfl))) nd_poly nc_poly) (xa_cons B2.toXJ (xe_var (i := 2) rfl (.inl (by kernel_rfl)) nd_place nc_place) xa_nil)) nd_value_in))) xa_nil))))))
theorem bn_21 {K : PySem.W.Frag} {f : Addr} {fd : FuncData} (F : FunD K "cells_of" "cells_of" (defArgs (top 45)) (defBody (top 45)) (defScope (top 45)) [] [] f fd) : Binds K fd ["body"] [] := F.bindsN fun _ _ _ _ _ _ us hl => match us, hl with | [_], _ => rfl
theorem c_21 {P : Program} {w : World} {mg : Str → Option Value} {base : Heap} {W : Wd} (h : Wk P w mg base W) : Cal P w mg base 5 "cells_of" 1 W f_cells_of := by
  obtain ⟨fd, F⟩ := h.def_ 21 _ rfl
  exact ⟨_, fd, ["body"], rfl, fn_21 h F, h.x_21, F.kp, bn_21 F⟩
theorem fn_22 {P : Program} {w : World} {mg : Str → Option Value} {base : Heap} {W : Wd} (h : Wk P w mg base W) {fd : FuncData} (F : FunD W.K "text_of" "text_of" (defArgs (top 46)) (defBody (top 46)) (defScope (top 46)) [] [] (He.ga W.K "text_of") fd) : FnG P w W.K mg base 6 (He.ga W.K "text_of") fd ["body"] (spN W 1 f_text_of) := by
  have hc_14 := c_14 h
  have hc_21 := c_21 h
  refine fn_ok (N := ["body"]) (d := d_text_of) rfl F ⟨rfl, rfl, rfl, by decide +kernel, rfl, by decide +kernel, by decide +kernel⟩ (.refl _) fun cdv A outer s H E hr J2 => ?_
  exact (ys_one (ys_ret J2.toXJ (xe_bin J2.toXJ op_addA (by rw [← J2.toXJ.K]; exact ok_add) (xe_bin J2.toXJ op_addA (by rw [← J2.toXJ.K]; exact ok_add) (xe_gstr (by kernel_rfl) lk_sc_22_BEGIN h.g.BEGIN nd_BEGIN) (xe_call J2 (hc_14.mono (by decide)) hr lk_sc_22_text_in (xa_cons J2.toXJ (xe_call J2 (hc_21.mono (by decide)) hr lk_sc_22_cells_of (xa_cons J2.toXJ (xe_var (i := 0) rfl (.inl lk_sc_22_body) nd_body nc_body) xa_nil) nd_cells_of) xa_nil) nd_text_in)) (xe_gstr (by kernel_rfl) lk_sc_22_END h.g.END nd_END))))
theorem bn_22 {K : PySem.W.Frag} {f : Addr} {fd : FuncData} (F : FunD K "text_of" "text_of" (defArgs (top 46)) (defBody (top 46)) (defScope (top 46)) [] [] f fd) : Binds K fd ["body"] [] := F.bindsN fun _ _ _ _ _ _ us hl => match us, hl with | [_], _ => rfl
theorem c_22 {P : Program} {w : World} {mg : Str → Option Value} {base : Heap} {W : Wd} (h : Wk P w mg base W) : Cal P w mg base 6 "text_of" 1 W f_text_of := by
  obtain ⟨fd, F⟩ := h.def_ 22 _ rfl
  exact ⟨_, fd, ["body"], rfl, fn_22 h F, h.x_22, F.kp, bn_22 F⟩
theorem fn_23 {P : Program} {w : World} {mg : Str → Option Value} {base : Heap} {W : Wd} (h : Wk P w mg base W) {fd : FuncData} (F : FunD W.K "is_frame_of" "is_frame_of" (defArgs (top 47)) (defBody (top 47)) (defScope (top 47)) [] [] (He.ga W.K "is_frame_of") fd) : FnG P w W.K mg base 1 (He.ga W.K "is_frame_of") fd ["cells"] (spN W 1 f_is_frame_of) := by
  refine fn_ok (N := ["cells"]) (d := d_is_frame_of) rfl F ⟨rfl, rfl, rfl, by decide +kernel, rfl, by decide +kernel, by decide +kernel⟩ (.refl _) fun cdv A outer s H E hr J2 => ?_
  exact (ys_one (ys_ret J2.toXJ (xe_and J2.toXJ (xe_cmp J2.toXJ op_notN ok_notN (xe_var (i := 0) rfl (.inl lk_sc_23_cells) nd_cells nc_cells) xe_non (nomark _)) (xe_one xe_never))))
theorem bn_23 {K : PySem.W.Frag} {f : Addr} {fd : FuncData} (F : FunD K "is_frame_of" "is_frame_of" (defArgs (top 47)) (defBody (top 47)) (defScope (top 47)) [] [] f fd) : Binds K fd ["cells"] [] := F.bindsN fun _ _ _ _ _ _ us hl => match us, hl with | [_], _ => rfl
theorem c_23 {P : Program} {w : World} {mg : Str → Option Value} {base : Heap} {W : Wd} (h : Wk P w mg base W) : Cal P w mg base 1 "is_frame_of" 1 W f_is_frame_of := by
  obtain ⟨fd, F⟩ := h.def_ 23 _ rfl
  exact ⟨_, fd, ["cells"], rfl, fn_23 h F, h.x_23, F.kp, bn_23 F⟩
theorem fn_24 {P : Program} {w : World} {mg : Str → Option Value} {base : Heap} {W : Wd} (h : Wk P w mg base W) {fd : FuncData} (F : FunD W.K "found_in" "found_in" (defArgs (top 48)) (defBody (top 48)) (defScope (top 48)) [] [] (He.ga W.K "found_in") fd) : FnG P w W.K mg base 4 (He.ga W.K "found_in") fd ["text"] (spN W 1 f_found_in) := by
  have hc_17 := c_17 h
  refine fn_ok (N := ["text", "place", "cells"]) (d := d_found_in) rfl F ⟨rfl, rfl, rfl, by decide +kernel, rfl, by decide +kernel, by decide +kernel⟩ (.refl _) fun cdv A outer s H E hr J2 => ?_
  exact (ys_one (ys_ret J2.toXJ (xc_lc J2  (xi_val J2.toXJ (xe_call J2 (hc_17.mono (by decide)) hr lk_sc_24_windows_found (xa_cons J2.toXJ (xe_var (i := 0) rfl (.inl lk_sc_24_text) nd_text nc_text) xa_nil) nd_windows_found)) (own := [("place", 1), ("cells", 2)]) (by kernel_rfl) (by rfl) (fun s H C cl fp B2 => (yg_tp B2.cm (ygs_cons (yg_nm (i := 1) B2.nd rfl (.inl (by kernel_rfl)) (.inr (by kernel_rfl))) (ygs_cons (yg_nm (i := 2) B2.nd rfl (.inl (by kernel_rfl)) (.inr (by kernel_rfl))) ygs_nil)))) (fun s H C cl fp B2 => (pts_of xt_never)) (fun s H C cl fp B2 => xe_never))))
theorem bn_24 {K : PySem.W.Frag} {f : Addr} {fd : FuncData} (F : FunD K "found_in" "found_in" (defArgs (top 48)) (defBody (top 48)) (defScope (top 48)) [] [] f fd) : Binds K fd ["text"] [] := F.bindsN fun _ _ _ _ _ _ us hl => match us, hl with | [_], _ => rfl
theorem c_24 {P : Program} {w : World} {mg : Str → Option Value} {base : Heap} {W : Wd} (h : Wk P w mg base W) : Cal P w mg base 4 "found_in" 1 W f_found_in := by
  obtain ⟨fd, F⟩ := h.def_ 24 _ rfl
  exact ⟨_, fd, ["text"], rfl, fn_24 h F, h.x_24, F.kp, bn_24 F⟩
theorem fn_25 {P : Program} {w : World} {mg : Str → Option Value} {base : Heap} {W : Wd} (h : Wk P w mg base W) {fd : FuncData} (F : FunD W.K "is_body_form" "is_body_form" (defArgs (top 50)) (defBody (top 50)) (defScope (top 50)) [] [] (He.ga W.K "is_body_form") fd) : FnG P w W.K mg base 5 (He.ga W.K "is_body_form") fd ["value"] (spN W 1 f_is_body_form) := by
  have hc_4 := c_4 h
  refine fn_ok (N := ["value"]) (d := d_is_body_form) rfl F ⟨rfl, rfl, rfl, by decide +kernel, rfl, by decide +kernel, by decide +kernel⟩ (.refl _) fun cdv A outer s H E hr J2 => ?_
  exact (ys_one (ys_ret J2.toXJ (xe_call J2 (hc_4.mono (by decide)) hr lk_sc_25_are_cells_in (xa_cons J2.toXJ (xe_var (i := 0) rfl (.inl lk_sc_25_value) nd_value nc_value) (xa_cons J2.toXJ (xe_gint lk_sc_25_BODY_CELLS h.g.BODY_CELLS nd_BODY_CELLS) (xa_cons J2.toXJ (xe_gint lk_sc_25_BODY_CELLS h.g.BODY_CELLS nd_BODY_CELLS) xa_nil))) nd_are_cells_in)))
theorem bn_25 {K : PySem.W.Frag} {f : Addr} {fd : FuncData} (F : FunD K "is_body_form" "is_body_form" (defArgs (top 50)) (defBody (top 50)) (defScope (top 50)) [] [] f fd) : Binds K fd ["value"] [] := F.bindsN fun _ _ _ _ _ _ us hl => match us, hl with | [_], _ => rfl
theorem c_25 {P : Program} {w : World} {mg : Str → Option Value} {base : Heap} {W : Wd} (h : Wk P w mg base W) : Cal P w mg base 5 "is_body_form" 1 W f_is_body_form := by
  obtain ⟨fd, F⟩ := h.def_ 25 _ rfl
  exact ⟨_, fd, ["value"], rfl, fn_25 h F, h.x_25, F.kp, bn_25 F⟩
theorem fn_26 {P : Program} {w : World} {mg : Str → Option Value} {base : Heap} {W : Wd} (h : Wk P w mg base W) {fd : FuncData} (F : FunD W.K "require_body_form" "require_body_form" (defArgs (top 51)) (defBody (top 51)) (defScope (top 51)) [] [] (He.ga W.K "require_body_form") fd) : FnG P w W.K mg base 6 (He.ga W.K "require_body_form") fd ["value"] (spN W 1 f_require_body_form) := by
  have hc_25 := c_25 h
  refine fn_ok (N := ["value"]) (d := d_require_body_form) rfl F ⟨rfl, rfl, rfl, by decide +kernel, rfl, by decide +kernel, by decide +kernel⟩ (.refl _) fun cdv A outer s H E hr J2 => ?_
  exact (ys_one (ys_if J2.toXJ (xt_not J2.toXJ (xt_val J2.toXJ (xe_call J2 (hc_25.mono (by decide)) hr lk_sc_26_is_body_form (xa_cons J2.toXJ (xe_var (i := 0) rfl (.inl lk_sc_26_value) nd_value nc_value) xa_nil) nd_is_body_form))) (ys_one (ys_raiseS J2 h.o_InvalidBody h.c_InvalidBody lk_sc_26_InvalidBody (by rw [h.hca]; rfl) nd_InvalidBody)) ys_nil))
theorem bn_26 {K : PySem.W.Frag} {f : Addr} {fd : FuncData} (F : FunD K "require_body_form" "require_body_form" (defArgs (top 51)) (defBody (top 51)) (defScope (top 51)) [] [] f fd) : Binds K fd ["value"] [] := F.bindsN fun _ _ _ _ _ _ us hl => match us, hl with | [_], _ => rfl
theorem c_26 {P : Program} {w : World} {mg : Str → Option Value} {base : Heap} {W : Wd} (h : Wk P w mg base W) : Cal P w mg base 6 "require_body_form" 1 W f_require_body_form := by
  obtain ⟨fd, F⟩ := h.def_ 26 _ rfl
  exact ⟨_, fd, ["value"], rfl, fn_26 h F, h.x_26, F.kp, bn_26 F⟩
theorem fn_27 {P : Program} {w : World} {mg : Str → Option Value} {base : Heap} {W : Wd} (h : Wk P w mg base W) {fd : FuncData} (F : FunD W.K "require_indices" "require_indices" (defArgs (top 52)) (defBody (top 52)) (defScope (top 52)) [] [] (He.ga W.K "require_indices") fd) : FnG P w W.K mg base 4 (He.ga W.K "require_indices") fd ["value"] (spN W 1 f_require_indices) := by
  have hc_13 := c_13 h
  refine fn_ok (N := ["value"]) (d := d_require_indices) rfl F ⟨rfl, rfl, rfl, by decide +kernel, rfl, by decide +kernel, by decide +kernel⟩ (.refl _) fun cdv A outer s H E hr J2 => ?_
  exact (ys_one (ys_if J2.toXJ (xt_not J2.toXJ (xt_val J2.toXJ (xe_call J2 (hc_13.mono (by decide)) hr lk_sc_27_is_ascending_within (xa_cons J2.toXJ (xe_var (i := 0) rfl (.inl lk_sc_27_value) nd_value nc_value) (xa_cons J2.toXJ (xe_gint lk_sc_27_FRAME_CELLS h.g.FRAME_CELLS nd_FRAME_CELLS) xa_nil)) nd_is_ascending_within))) (ys_one (ys_raiseS J2 h.o_InvalidOperation h.c_InvalidOperation lk_sc_27_InvalidOperation (by rw [h.hca]; rfl) nd_InvalidOperation)) ys_nil))
theorem bn_27 {K : PySem.W.Frag} {f : Addr} {fd : FuncData} (F : FunD K "require_indices" "require_indices" (defArgs (top 52)) (defBody (top 52)) (defScope (top 52)) [] [] f fd) : Binds K fd ["value"] [] := F.bindsN fun _ _ _ _ _ _ us hl => match us, hl with | [_], _ => rfl
theorem c_27 {P : Program} {w : World} {mg : Str → Option Value} {base : Heap} {W : Wd} (h : Wk P w mg base W) : Cal P w mg base 4 "require_indices" 1 W f_require_indices := by
  obtain ⟨fd, F⟩ := h.def_ 27 _ rfl
  exact ⟨_, fd, ["value"], rfl, fn_27 h F, h.x_27, F.kp, bn_27 F⟩
theorem fn_28 {P : Program} {w : World} {mg : Str → Option Value} {base : Heap} {W : Wd} (h : Wk P w mg base W) {fd : FuncData} (F : FunD W.K "require_body_and_indices" "require_body_and_indices" (defArgs (top 53)) (defBody (top 53)) (defScope (top 53)) [] [] (He.ga W.K "require_body_and_indices") fd) : FnG P w W.K mg base 7 (He.ga W.K "require_body_and_indices") fd ["body", "indices"] (spN W 2 f_require_body_and_indices) := by
  have hc_26 := c_26 h
  have hc_27 := c_27 h
  refine fn_ok (N := ["body", "indices"]) (d := d_require_body_and_indices) rfl F ⟨rfl, rfl, rfl, by decide +kernel, rfl, by decide +kernel, by decide +kernel⟩ (.refl _) fun cdv A outer s H E hr J2 => ?_
  exact (ys_cons J2.toXJ (ys_expr J2.toXJ (xe_call J2 (hc_26.mono (by decide)) hr lk_sc_28_require_body_form (xa_cons J2.toXJ (xe_var (i := 0) rfl (.inl lk_sc_28_body) nd_body nc_body) xa_nil) nd_require_body_form)) (ys_cons J2.toXJ (ys_expr J2.toXJ (xe_call J2 (hc_27.mono (by decide)) hr lk_sc_28_require_indices (xa_cons J2.toXJ (xe_var (i := 1) rfl (.inl lk_sc_28_indices) nd_indices nc_indices) xa_nil) nd_require_indices)) (ys_one (ys_if J2.toXJ (xt_cmp J2.toXJ op_gtA ok_cmp (xe_callB J2.toXJ call_len (by rw [← J2.toXJ.K]; exact ok_len) lk_sc_28_len h.g.b_len bt_len (xa_cons J2.toXJ (xe_var (i := 1) rfl (.inl lk_sc_28_indices) nd_indices nc_indices) xa_nil) nn_len nd_len) (xe_gint lk_sc_28_MOST_ALIKE h.g.MOST_ALIKE nd_MOST_ALIKE) (nomark _)) (ys_one (ys_raiseS J2 h.o_InvalidOperation h.c_InvalidOperation lk_sc_28_InvalidOperation (by rw [h.hca]; rfl) nd_InvalidOperation)) ys_nil))))
theorem bn_28 {K : PySem.W.Frag} {f : Addr} {fd : FuncData} (F : FunD K "require_body_and_indices" "require_body_and_indices" (defArgs (top 53)) (defBody (top 53)) (defScope (top 53)) [] [] f fd) : Binds K fd ["body", "indices"] [] := F.bindsN fun _ _ _ _ _ _ us hl => match us, hl with | [_, _], _ => rfl
theorem c_28 {P : Program} {w : World} {mg : Str → Option Value} {base : Heap} {W : Wd} (h : Wk P w mg base W) : Cal P w mg base 7 "require_body_and_indices" 2 W f_require_body_and_indices := by
  obtain ⟨fd, F⟩ := h.def_ 28 _ rfl
  exact ⟨_, fd, ["body", "indices"], rfl, fn_28 h F, h.x_28, F.kp, bn_28 F⟩
theorem fn_29 {P : Program} {w : World} {mg : Str → Option Value} {base : Heap} {W : Wd} (h : Wk P w mg base W) {fd : FuncData} (F : FunD W.K "made_frame" "made_frame" (defArgs (top 54)) (defBody (top 54)) (defScope (top 54)) [] [] (He.ga W.K "made_frame") fd) : FnG P w W.K mg base 7 (He.ga W.K "made_frame") fd ["body"] (spN W 1 f_made_frame) := by
  have hc_26 := c_26 h
  refine fn_ok (N := ["body"]) (d := d_made_frame) rfl F ⟨rfl, rfl, rfl, by decide +kernel, rfl, by decide +kernel, by decide +kernel⟩ (.refl _) fun cdv A outer s H E hr J2 => ?_
  exact (ys_cons J2.toXJ (ys_expr J2.toXJ (xe_call J2 (hc_26.mono (by decide)) hr lk_sc_29_require_body_form (xa_cons J2.toXJ (xe_var (i := 0) rfl (.inl lk_sc_29_body) nd_body nc_body) xa_nil) nd_require_body_form)) (ys_one ys_never))
theorem bn_29 {K : PySem.W.Frag} {f : Addr} {fd : FuncData} (F : FunD K "made_frame" "made_frame" (defArgs (top 54)) (defBody (top 54)) (defScope (top 54)) [] [] f fd) : Binds K fd ["body"] [] := F.bindsN fun _ _ _ _ _ _ us hl => match us, hl with | [_], _ => rfl
theorem c_29 {P : Program} {w : World} {mg : Str → Option Value} {base : Heap} {W : Wd} (h : Wk P w mg base W) : Cal P w mg base 7 "made_frame" 1 W f_made_frame := by
  obtain ⟨fd, F⟩ := h.def_ 29 _ rfl
  exact ⟨_, fd, ["body"], rfl, fn_29 h F, h.x_29, F.kp, bn_29 F⟩
theorem fn_30 {P : Program} {w : World} {mg : Str → Option Value} {base : Heap} {W : Wd} (h : Wk P w mg base W) {fd : FuncData} (F : FunD W.K "frame_cells" "frame_cells" (defArgs (top 55)) (defBody (top 55)) (defScope (top 55)) [] [] (He.ga W.K "frame_cells") fd) : FnG P w W.K mg base 7 (He.ga W.K "frame_cells") fd ["body"] (spN W 1 f_frame_cells) := by
  have hc_26 := c_26 h
  refine fn_ok (N := ["body"]) (d := d_frame_cells) rfl F ⟨rfl, rfl, rfl, by decide +kernel, rfl, by decide +kernel, by decide +kernel⟩ (.refl _) fun cdv A outer s H E hr J2 => ?_
  exact (ys_cons J2.toXJ (ys_expr J2.toXJ (xe_call J2 (hc_26.mono (by decide)) hr lk_sc_30_require_body_form (xa_cons J2.toXJ (xe_var (i := 0) rfl (.inl lk_sc_30_body) nd_body nc_body) xa_nil) nd_require_body_form)) (ys_one ys_never))
theorem bn_30 {K : PySem.W.Frag} {f : Addr} {fd : FuncData} (F : FunD K "frame_cells" "frame_cells" (defArgs (top 55)) (defBody (top 55)) (defScope (top 55)) [] [] f fd) : Binds K fd ["body"] [] := F.bindsN fun _ _ _ _ _ _ us hl => match us, hl with | [_], _ => rfl
theorem c_30 {P : Program} {w : World} {mg : Str → Option Value} {base : Heap} {W : Wd} (h : Wk P w mg base W) : Cal P w mg base 7 "frame_cells" 1 W f_frame_cells := by
  obtain ⟨fd, F⟩ := h.def_ 30 _ rfl
  exact ⟨_, fd, ["body"], rfl, fn_30 h F, h.x_30, F.kp, bn_30 F⟩
theorem fn_31 {P : Program} {w : World} {mg : Str → Option Value} {base : Heap} {W : Wd} (h : Wk P w mg base W) {fd : FuncData} (F : FunD W.K "told_frame" "told_frame" (defArgs (top 56)) (defBody (top 56)) (defScope (top 56)) [] [] (He.ga W.K "told_frame") fd) : FnG P w W.K mg base 3 (He.ga W.K "told_frame") fd ["text"] (spN W 1 f_told_frame) := by
  have hc_16 := c_16 h
  have hc_19 := c_19 h
  have hc_23 := c_23 h
  refine fn_ok (N := ["text", "cells"]) (d := d_told_frame) rfl F ⟨rfl, rfl, rfl, by decide +kernel, rfl, by decide +kernel, by decide +kernel⟩ (.refl _) fun cdv A outer s H E hr J2 => ?_
  exact (ys_cons J2.toXJ (ys_expr J2.toXJ (xe_call J2 (hc_19.mono (by decide)) hr lk_sc_31_require_text (xa_cons J2.toXJ (xe_var (i := 0) rfl (.inl lk_sc_31_text) nd_text nc_text) xa_nil) nd_require_text)) (ys_cons J2.toXJ (ys_set (i := 1) J2.toXJ J2.nd rfl (.inl lk_sc_31_cells) (xe_if J2.toXJ (xt_cmp J2.toXJ (op_eqA hr.units) (by rw [← J2.toXJ.K]; exact ok_eq) (xe_callB J2.toXJ call_len (by rw [← J2.toXJ.K]; exact ok_len) lk_sc_31_len h.g.b_len bt_len (xa_cons J2.toXJ (xe_var (i := 0) rfl (.inl lk_sc_31_text) nd_text nc_text) xa_nil) nn_len nd_len) (xe_gint lk_sc_31_WINDOW_SIGNS h.g.WINDOW_SIGNS nd_WINDOW_SIGNS) (nomark _)) (xe_call J2 (hc_16.mono (by decide)) hr lk_sc_31_window_at (xa_cons J2.toXJ (xe_var (i := 0) rfl (.inl lk_sc_31_text) nd_text nc_text) (xa_cons J2.toXJ xe_int xa_nil)) nd_window_at) xe_non) (by rfl) (.inl rfl)) (ys_one (ys_ret J2.toXJ (xe_if J2.toXJ (xt_val J2.toXJ (xe_call J2 (hc_23.mono (by decide)) hr lk_sc_31_is_frame_of (xa_cons J2.toXJ (xe_var (i := 1) rfl (.inl lk_sc_31_cells) nd_cells nc_cells) xa_nil) nd_is_frame_of)) xe_never xe_non)))))
theorem bn_31 {K : PySem.W.Frag} {f : Addr} {fd : FuncData} (F : FunD K "told_frame" "told_frame" (defArgs (top 56)) (defBody (top 56)) (defScope (top 56)) [] [] f fd) : Binds K fd ["text"] [] := F.bindsN fun _ _ _ _ _ _ us hl => match us, hl with | [_], _ => rfl
theorem c_31 {P : Program} {w : World} {mg : Str → Option Value} {base : Heap} {W : Wd} (h : Wk P w mg base W) : Cal P w mg base 3 "told_frame" 1 W f_told_frame := by
  obtain ⟨fd, F⟩ := h.def_ 31 _ rfl
  exact ⟨_, fd, ["text"], rfl, fn_31 h F, h.x_31, F.kp, bn_31 F⟩
theorem fn_32 {P : Program} {w : World} {mg : Str → Option Value} {base : Heap} {W : Wd} (h : Wk P w mg base W) {fd : FuncData} (F : FunD W.K "found_frames" "found_frames" (defArgs (top 57)) (defBody (top 57)) (defScope (top 57)) [] [] (He.ga W.K "found_frames") fd) : FnG P w W.K mg base 5 (He.ga W.K "found_frames") fd ["text"] (spN W 1 f_found_frames) := by
  have hc_19 := c_19 h
  have hc_24 := c_24 h
  refine fn_ok (N := ["text"]) (d := d_found_frames) rfl F ⟨rfl, rfl, rfl, by decide +kernel, rfl, by decide +kernel, by decide +kernel⟩ (.refl _) fun cdv A outer s H E hr J2 => ?_
  exact (ys_cons J2.toXJ (ys_expr J2.toXJ (xe_call J2 (hc_19.mono (by decide)) hr lk_sc_32_require_text (xa_cons J2.toXJ (xe_var (i := 0) rfl (.inl lk_sc_32_text) nd_text nc_text) xa_nil) nd_require_text)) (ys_one (ys_ret J2.toXJ (xe_callTy J2.toXJ call_tuple_of (by rw [← J2.toXJ.K]; exact ok_tupleA) lk_sc_32_tuple h.g.b_tuple bt_tuple (xa_cons J2.toXJ (xe_call J2 (hc_24.mono (by decide)) hr lk_sc_32_found_in (xa_cons J2.toXJ (xe_var (i := 0) rfl (.inl lk_sc_32_text) nd_text nc_text) xa_nil) nd_found_in) xa_nil) nn_tuple nd_tuple))))
theorem bn_32 {K : PySem.W.Frag} {f : Addr} {fd : FuncData} (F : FunD K "found_frames" "found_frames" (defArgs (top 57)) (defBody (top 57)) (defScope (top 57)) [] [] f fd) : Binds K fd ["text"] [] := F.bindsN fun _ _ _ _ _ _ us hl => match us, hl with | [_], _ => rfl
theorem c_32 {P : Program} {w : World} {mg : Str → Option Value} {base : Heap} {W : Wd} (h : Wk P w mg base W) : Cal P w mg base 5 "found_frames" 1 W f_found_frames := by
  obtain ⟨fd, F⟩ := h.def_ 32 _ rfl
  exact ⟨_, fd, ["text"], rfl, fn_32 h F, h.x_32, F.kp, bn_32 F⟩
theorem fn_33 {P : Program} {w : World} {mg : Str → Option Value} {base : Heap} {W : Wd} (h : Wk P w mg base W) {fd : FuncData} (F : FunD W.K "bodies_in" "bodies_in" (defArgs (top 58)) (defBody (top 58)) (defScope (top 58)) [] [] (He.ga W.K "bodies_in") fd) : FnG P w W.K mg base 5 (He.ga W.K "bodies_in") fd ["text"] (spN W 1 f_bodies_in) := by
  have hc_19 := c_19 h
  have hc_24 := c_24 h
  refine fn_ok (N := ["text", "place", "body"]) (d := d_bodies_in) rfl F ⟨rfl, rfl, rfl, by decide +kernel, rfl, by decide +kernel, by decide +kernel⟩ (.refl _) fun cdv A outer s H E hr J2 => ?_
  exact (ys_cons J2.toXJ (ys_expr J2.toXJ (xe_call J2 (hc_19.mono (by decide)) hr lk_sc_33_require_text (xa_cons J2.toXJ (xe_var (i := 0) rfl (.inl lk_sc_33_text) nd_text nc_text) xa_nil) nd_require_text)) (ys_one (ys_ret J2.toXJ (xe_callTy J2.toXJ call_tuple_of (by rw [← J2.toXJ.K]; exact ok_tupleA) lk_sc_33_tuple h.g.b_tuple bt_tuple (xa_cons J2.toXJ (xe_callB J2.toXJ (call_sortDR J2.cm) ok_sortD lk_sc_33_sorted h.g.b_sorted bt_sorted (xa_cons J2.toXJ (xc_dc J2 (xi_val J2.toXJ (xe_call J2 (hc_24.mono (by decide)) hr lk_sc_33_found_in (xa_cons J2.toXJ (xe_var (i := 0) rfl (.inl lk_sc_33_text) nd_text nc_text) xa_nil) nd_found_in)) (own := [("place", 1), ("body", 2)]) (by kernel_rfl) (by rfl) (fun s H C cl fp B2 => (yg_tp B2.cm (ygs_cons (yg_nm (i := 1) B2.nd rfl (.inl (by kernel_rfl)) (.inr (by kernel_rfl))) (ygs_cons (yg_nm (i := 2) B2.nd rfl (.inl (by kernel_rfl)) (.inr (by kernel_rfl))) ygs_nil)))) (fun s H C cl fp B2 => pts_yes) (fun s H C cl fp B2 => xe_never) (fun s H C cl fp B2 => xe_never)) xa_nil) nn_sorted nd_sorted) xa_nil) nn_tuple nd_tuple))))
theorem bn_33 {K : PySem.W.Frag} {f : Addr} {fd : FuncData} (F : FunD K "bodies_in" "bodies_in" (defArgs (top 58)) (defBody (top 58)) (defScope (top 58)) [] [] f fd) : Binds K fd ["text"] [] := F.bindsN fun _ _ _ _ _ _ us hl => match us, hl with | [_], _ => rfl
theorem c_33 {P : Program} {w : World} {mg : Str → Option Value} {base : Heap} {W : Wd} (h : Wk P w mg base W) : Cal P w mg base 5 "bodies_in" 1 W f_bodies_in := by
  obtain ⟨fd, F⟩ := h.def_ 33 _ rfl
  exact ⟨_, fd, ["text"], rfl, fn_33 h F, h.x_33, F.kp, bn_33 F⟩
theorem fn_34 {P : Program} {w : World} {mg : Str → Option Value} {base : Heap} {W : Wd} (h : Wk P w mg base W) {fd : FuncData} (F : FunD W.K "agreeing" "agreeing" (defArgs (top 59)) (defBody (top 59)) (defScope (top 59)) [] [] (He.ga W.K "agreeing") fd) : FnG P w W.K mg base 7 (He.ga W.K "agreeing") fd ["one", "other"] (spN W 2 f_agreeing) := by
  have hc_26 := c_26 h
  refine fn_ok (N := ["one", "other"]) (d := d_agreeing) rfl F ⟨rfl, rfl, rfl, by decide +kernel, rfl, by decide +kernel, by decide +kernel⟩ (.refl _) fun cdv A outer s H E hr J2 => ?_
  exact (ys_cons J2.toXJ (ys_expr J2.toXJ (xe_call J2 (hc_26.mono (by decide)) hr lk_sc_34_require_body_form (xa_cons J2.toXJ (xe_var (i := 0) rfl (.inl lk_sc_34_one) nd_one nc_one) xa_nil) nd_require_body_form)) (ys_cons J2.toXJ (ys_expr J2.toXJ (xe_call J2 (hc_26.mono (by decide)) hr lk_sc_34_require_body_form (xa_cons J2.toXJ (xe_var (i := 1) rfl (.inl lk_sc_34_other) nd_other nc_other) xa_nil) nd_require_body_form)) (ys_one ys_never)))
theorem bn_34 {K : PySem.W.Frag} {f : Addr} {fd : FuncData} (F : FunD K "agreeing" "agreeing" (defArgs (top 59)) (defBody (top 59)) (defScope (top 59)) [] [] f fd) : Binds K fd ["one", "other"] [] := F.bindsN fun _ _ _ _ _ _ us hl => match us, hl with | [_, _], _ => rfl
theorem c_34 {P : Program} {w : World} {mg : Str → Option Value} {base : Heap} {W : Wd} (h : Wk P w mg base W) : Cal P w mg base 7 "agreeing" 2 W f_agreeing := by
  obtain ⟨fd, F⟩ := h.def_ 34 _ rfl
  exact ⟨_, fd, ["one", "other"], rfl, fn_34 h F, h.x_34, F.kp, bn_34 F⟩
theorem fn_35 {P : Program} {w : World} {mg : Str → Option Value} {base : Heap} {W : Wd} (h : Wk P w mg base W) {fd : FuncData} (F : FunD W.K "other_body" "other_body" (defArgs (top 60)) (defBody (top 60)) (defScope (top 60)) [] [] (He.ga W.K "other_body") fd) : FnG P w W.K mg base 8 (He.ga W.K "other_body") fd ["body", "indices"] (spN W 2 f_other_body) := by
  have hc_7 := c_7 h
  have hc_8 := c_8 h
  have hc_11 := c_11 h
  have hc_20 := c_20 h
  have hc_28 := c_28 h
  refine fn_ok (N := ["body", "indices", "poly", "at", "place"]) (d := d_other_body) rfl F ⟨rfl, rfl, rfl, by decide +kernel, rfl, by decide +kernel, by decide +kernel⟩ (.refl _) fun cdv A outer s H E hr J2 => ?_
  exact (ys_cons J2.toXJ (ys_expr J2.toXJ (xe_call J2 (hc_28.mono (by decide)) hr lk_sc_35_require_body_and_indices (xa_cons J2.toXJ (xe_var (i := 0) rfl (.inl lk_sc_35_body) nd_body nc_body) (xa_cons J2.toXJ (xe_var (i := 1) rfl (.inl lk_sc_35_indices) nd_indices nc_indices) xa_nil)) nd_require_body_and_indices)) (ys_cons J2.toXJ (ys_set (i := 2) J2.toXJ J2.nd rfl (.inr lk_sc_35_poly) (xe_call J2 (hc_8.mono (by decide)) hr lk_sc_35_sum_in (xa_cons J2.toXJ (xe_call J2 (hc_20.mono (by decide)) hr lk_sc_35_poly_of (xa_cons J2.toXJ (xe_var (i := 0) rfl (.inl lk_sc_35_body) nd_body nc_body) xa_nil) nd_poly_of) (xa_cons J2.toXJ (xe_call J2 (hc_11.mono (by decide)) hr lk_sc_35_none_in (xa_cons J2.toXJ (xc_lc J2  (xi_val J2.toXJ (xe_var (i := 1) rfl (.inl lk_sc_35_indices) nd_indices nc_indices)) (own := [("at", 3)]) (by kernel_rfl) (by rfl) (fun s H C cl fp B2 => (yg_nm (i := 3) B2.nd rfl (.inl (by kernel_rfl)) (.inr (by kernel_rfl)))) (fun s H C cl fp B2 => pts_yes) (fun s H C cl fp B2 => (xe_ix B2.toXJ (xe_gtup B2.toXJ (gl_of (by kernel_rfl)) h.t_PLACES nd_PLACES) (xe_var (i := 3) rfl (.inl (by kernel_rfl)) nd_at nc_at)))) xa_nil) nd_none_in) xa_nil)) nd_sum_in) (by rfl) (.inl rfl)) (ys_one (ys_ret J2.toXJ (xe_callTy J2.toXJ call_tuple_of (by rw [← J2.toXJ.K]; exact ok_tupleA) lk_sc_35_tuple h.g.b_tuple bt_tuple (xa_cons J2.toXJ (xc_lc J2  (xi_val J2.toXJ (xe_sl J2.toXJ (xe_gtup J2.toXJ lk_sc_35_PLACES h.t_PLACES nd_PLACES) xo_none (xo_some J2.toXJ (xe_gint lk_sc_35_BODY_CELLS h.g.BODY_CELLS nd_BODY_CELLS)))) (own := [("place", 4)]) (by kernel_rfl) (by rfl) (fun s H C cl fp B2 => (yg_nm (i := 4) B2.nd rfl (.inl (by kernel_rfl)) (.inr (by kernel_rfl)))) (fun s H C cl fp B2 => pts_yes) (fun s H C cl fp B2 => (xe_call B2 (hc_7.mono (by decide)) hr (gl_of (by kernel_rfl)) (xa_cons B2.toXJ (xe_var (i := 2) rfl (.inr (.inl (by kernel_rfl))) nd_poly nc_poly) (xa_cons B2.toXJ (xe_var (i := 4) rfl (.inl (by kernel_rfl)) nd_place nc_place) xa_nil)) nd_value_in))) xa_nil) nn_tuple nd_tuple)))))
theorem bn_35 {K : PySem.W.Frag} {f : Addr} {fd : FuncData} (F : FunD K "other_body" "other_body" (defArgs (top 60)) (defBody (top 60)) (defScope (top 60)) [] [] f fd) : Binds K fd ["body", "indices"] [] := F.bindsN fun _ _ _ _ _ _ us hl => match us, hl with | [_, _], _ => rfl
theorem c_35 {P : Program} {w : World} {mg : Str → Option Value} {base : Heap} {W : Wd} (h : Wk P w mg base W) : Cal P w mg base 8 "other_body" 2 W f_other_body := by
  obtain ⟨fd, F⟩ := h.def_ 35 _ rfl
  exact ⟨_, fd, ["body", "indices"], rfl, fn_35 h F, h.x_35, F.kp, bn_35 F⟩
theorem fn_36 {P : Program} {w : World} {mg : Str → Option Value} {base : Heap} {W : Wd} (h : Wk P w mg base W) {fd : FuncData} (F : FunD W.K "is_other_body" "is_other_body" (defArgs (top 61)) (defBody (top 61)) (defScope (top 61)) [] [] (He.ga W.K "is_other_body") fd) : FnG P w W.K mg base 8 (He.ga W.K "is_other_body") fd ["body", "indices", "value"] (spN W 3 f_is_other_body) := by
  have hc_28 := c_28 h
  refine fn_ok (N := ["body", "indices", "value"]) (d := d_is_other_body) rfl F ⟨rfl, rfl, rfl, by decide +kernel, rfl, by decide +kernel, by decide +kernel⟩ (.refl _) fun cdv A outer s H E hr J2 => ?_
  exact (ys_cons J2.toXJ (ys_expr J2.toXJ (xe_call J2 (hc_28.mono (by decide)) hr lk_sc_36_require_body_and_indices (xa_cons J2.toXJ (xe_var (i := 0) rfl (.inl lk_sc_36_body) nd_body nc_body) (xa_cons J2.toXJ (xe_var (i := 1) rfl (.inl lk_sc_36_indices) nd_indices nc_indices) xa_nil)) nd_require_body_and_indices)) (ys_one ys_never))
theorem bn_36 {K : PySem.W.Frag} {f : Addr} {fd : FuncData} (F : FunD K "is_other_body" "is_other_body" (defArgs (top 61)) (defBody (top 61)) (defScope (top 61)) [] [] f fd) : Binds K fd ["body", "indices", "value"] [] := F.bindsN fun _ _ _ _ _ _ us hl => match us, hl with | [_, _, _], _ => rfl
theorem c_36 {P : Program} {w : World} {mg : Str → Option Value} {base : Heap} {W : Wd} (h : Wk P w mg base W) : Cal P w mg base 8 "is_other_body" 3 W f_is_other_body := by
  obtain ⟨fd, F⟩ := h.def_ 36 _ rfl
  exact ⟨_, fd, ["body", "indices", "value"], rfl, fn_36 h F, h.x_36, F.kp, bn_36 F⟩
theorem fn_37 {P : Program} {w : World} {mg : Str → Option Value} {base : Heap} {W : Wd} (h : Wk P w mg base W) {fd : FuncData} (F : FunD W.K "spliced" "spliced" (defArgs (top 62)) (defBody (top 62)) (defScope (top 62)) [] [] (He.ga W.K "spliced") fd) : FnG P w W.K mg base 7 (He.ga W.K "spliced") fd ["one", "other", "at"] (spN W 3 f_spliced) := by
  have hc_2 := c_2 h
  have hc_22 := c_22 h
  have hc_26 := c_26 h
  refine fn_ok (N := ["one", "other", "at"]) (d := d_spliced) rfl F ⟨rfl, rfl, rfl, by decide +kernel, rfl, by decide +kernel, by decide +kernel⟩ (.refl _) fun cdv A outer s H E hr J2 => ?_
  exact (ys_cons J2.toXJ (ys_expr J2.toXJ (xe_call J2 (hc_26.mono (by decide)) hr lk_sc_37_require_body_form (xa_cons J2.toXJ (xe_var (i := 0) rfl (.inl lk_sc_37_one) nd_one nc_one) xa_nil) nd_require_body_form)) (ys_cons J2.toXJ (ys_expr J2.toXJ (xe_call J2 (hc_26.mono (by decide)) hr lk_sc_37_require_body_form (xa_cons J2.toXJ (xe_var (i := 1) rfl (.inl lk_sc_37_other) nd_other nc_other) xa_nil) nd_require_body_form)) (ys_cons J2.toXJ (ys_expr J2.toXJ (xe_call J2 (hc_2.mono (by decide)) hr lk_sc_37_require_within (xa_cons J2.toXJ (xe_var (i := 2) rfl (.inl lk_sc_37_at) nd_at nc_at) (xa_cons J2.toXJ xe_int (xa_cons J2.toXJ (xe_gint lk_sc_37_WINDOW_SIGNS h.g.WINDOW_SIGNS nd_WINDOW_SIGNS) xa_nil))) nd_require_within)) (ys_one (ys_ret J2.toXJ (xe_bin J2.toXJ op_addA (by rw [← J2.toXJ.K]; exact ok_add) (xe_sl J2.toXJ (xe_call J2 (hc_22.mono (by decide)) hr lk_sc_37_text_of (xa_cons J2.toXJ (xe_var (i := 0) rfl (.inl lk_sc_37_one) nd_one nc_one) xa_nil) nd_text_of) xo_none (xo_some J2.toXJ (xe_var (i := 2) rfl (.inl lk_sc_37_at) nd_at nc_at))) (xe_sl J2.toXJ (xe_call J2 (hc_22.mono (by decide)) hr lk_sc_37_text_of (xa_cons J2.toXJ (xe_var (i := 1) rfl (.inl lk_sc_37_other) nd_other nc_other) xa_nil) nd_text_of) (xo_some J2.toXJ (xe_var (i := 2) rfl (.inl lk_sc_37_at) nd_at nc_at)) xo_none)))))))
theorem bn_37 {K : PySem.W.Frag} {f : Addr} {fd : FuncData} (F : FunD K "spliced" "spliced" (defArgs (top 62)) (defBody (top 62)) (defScope (top 62)) [] [] f fd) : Binds K fd ["one", "other", "at"] [] := F.bindsN fun _ _ _ _ _ _ us hl => match us, hl with | [_, _, _], _ => rfl
theorem c_37 {P : Program} {w : World} {mg : Str → Option Value} {base : Heap} {W : Wd} (h : Wk P w mg base W) : Cal P w mg base 7 "spliced" 3 W f_spliced := by
  obtain ⟨fd, F⟩ := h.def_ 37 _ rfl
  exact ⟨_, fd, ["one", "other", "at"], rfl, fn_37 h F, h.x_37, F.kp, bn_37 F⟩
theorem fn_38 {P : Program} {w : World} {mg : Str → Option Value} {base : Heap} {W : Wd} (h : Wk P w mg base W) {fd : FuncData} (F : FunD W.K "_law_churn" "_law_churn" (defArgs (top 64)) (defBody (top 64)) (defScope (top 64)) [] [] (He.ga W.K "_law_churn") fd) : FnG P w W.K mg base 1 (He.ga W.K "_law_churn") fd ["_law_script", "_law_spot"] (spN W 2 f__law_churn) := by
  refine fn_ok (N := ["_law_script", "_law_spot", "_law_cell", "_law_great", "_law_mixed"]) (d := d__law_churn) rfl F ⟨rfl, rfl, rfl, by decide +kernel, rfl, by decide +kernel, by decide +kernel⟩ (.refl _) fun cdv A outer s H E hr J2 => ?_
  exact (ys_cons J2.toXJ (ys_set (i := 2) J2.toXJ J2.nd rfl (.inl lk_sc_38__law_cell) (xe_if J2.toXJ (xt_cmp J2.toXJ op_ltA ok_cmp (xe_var (i := 1) rfl (.inl lk_sc_38__law_spot) nd__law_spot nc__law_spot) (xe_callB J2.toXJ call_len (by rw [← J2.toXJ.K]; exact ok_len) lk_sc_38_len h.g.b_len bt_len (xa_cons J2.toXJ (xe_var (i := 0) rfl (.inl lk_sc_38__law_script) nd__law_script nc__law_script) xa_nil) nn_len nd_len) (nomark _)) (xe_callTy J2.toXJ call_intX ok_intX lk_sc_38_int h.g.b_int bt_int (xa_cons J2.toXJ (xe_ix J2.toXJ (xe_var (i := 0) rfl (.inl lk_sc_38__law_script) nd__law_script nc__law_script) (xe_var (i := 1) rfl (.inl lk_sc_38__law_spot) nd__law_spot nc__law_spot)) xa_nil) nn_int nd_int) (xe_bin J2.toXJ op_addA (by rw [← J2.toXJ.K]; exact ok_add) (xe_bin J2.toXJ op_mulA (by rw [← J2.toXJ.K]; exact ok_mul) xe_int (xe_var (i := 1) rfl (.inl lk_sc_38__law_spot) nd__law_spot nc__law_spot)) xe_int)) (by rfl) (.inl rfl)) (ys_cons J2.toXJ (ys_set (i := 3) J2.toXJ J2.nd rfl (.inl lk_sc_38__law_great) (xe_bin J2.toXJ op_mod ok_mod (xe_callTy J2.toXJ call_intX ok_intX lk_sc_38_int h.g.b_int bt_int (xa_cons J2.toXJ (xe_callB J2.toXJ call_abs ok_int1 lk_sc_38_abs h.g.b_abs bt_abs (xa_cons J2.toXJ (xe_var (i := 2) rfl (.inl lk_sc_38__law_cell) nd__law_cell nc__law_cell) xa_nil) nn_abs nd_abs) xa_nil) nn_int nd_int) (xe_bin J2.toXJ op_mulA (by rw [← J2.toXJ.K]; exact ok_mul) (xe_bin J2.toXJ op_powB ok_pow xe_int xe_int) (xe_bin J2.toXJ op_powB ok_pow xe_int xe_int))) (by rfl) (.inl rfl)) (ys_cons J2.toXJ (ys_set (i := 4) J2.toXJ J2.nd rfl (.inl lk_sc_38__law_mixed) (xe_bin J2.toXJ op_addA (by rw [← J2.toXJ.K]; exact ok_add) (xe_bin J2.toXJ op_addA (by rw [← J2.toXJ.K]; exact ok_add) (xe_bin J2.toXJ op_addA (by rw [← J2.toXJ.K]; exact ok_add) (xe_bin J2.toXJ op_mulA (by rw [← J2.toXJ.K]; exact ok_mul) (xe_bin J2.toXJ op_mod ok_mod (xe_var (i := 3) rfl (.inl lk_sc_38__law_great) nd__law_great nc__law_great) xe_int) xe_int) (xe_bin J2.toXJ op_mulA (by rw [← J2.toXJ.K]; exact ok_mul) xe_int (xe_var (i := 1) rfl (.inl lk_sc_38__law_spot) nd__law_spot nc__law_spot))) (xe_bin J2.toXJ op_mulA (by rw [← J2.toXJ.K]; exact ok_mul) xe_int (xe_callTy J2.toXJ call_intX ok_intX lk_sc_38_int h.g.b_int bt_int (xa_cons J2.toXJ (xe_cmp J2.toXJ op_ltA ok_cmp (xe_var (i := 2) rfl (.inl lk_sc_38__law_cell) nd__law_cell nc__law_cell) xe_int (nomark _)) xa_nil) nn_int nd_int))) xe_int) (by rfl) (.inl rfl)) (ys_one (ys_ret J2.toXJ (xe_lst J2.toXJ (xa_cons J2.toXJ (xe_callB J2.toXJ (CallR.or (call_max2 J2.cm) (cr_max J2.cm)) (by rw [← J2.toXJ.K]; exact ok_max) lk_sc_38_max h.g.b_max bt_max (xa_cons J2.toXJ xe_int (xa_cons J2.toXJ (xe_bin J2.toXJ op_subT ok_sub (xe_var (i := 3) rfl (.inl lk_sc_38__law_great) nd__law_great nc__law_great) (xe_bin J2.toXJ op_powB ok_pow xe_int xe_int)) xa_nil)) nn_max nd_max) (xa_cons J2.toXJ (xe_bin J2.toXJ op_mod ok_mod (xe_callTy J2.toXJ call_intX ok_intX lk_sc_38_int h.g.b_int bt_int (xa_cons J2.toXJ (xe_var (i := 4) rfl (.inl lk_sc_38__law_mixed) nd__law_mixed nc__law_mixed) xa_nil) nn_int nd_int) xe_int) (xa_cons J2.toXJ xe_int xa_nil)))))))))
theorem bn_38 {K : PySem.W.Frag} {f : Addr} {fd : FuncData} (F : FunD K "_law_churn" "_law_churn" (defArgs (top 64)) (defBody (top 64)) (defScope (top 64)) [] [] f fd) : Binds K fd ["_law_script", "_law_spot"] [] := F.bindsN fun _ _ _ _ _ _ us hl => match us, hl with | [_, _], _ => rfl
theorem c_38 {P : Program} {w : World} {mg : Str → Option Value} {base : Heap} {W : Wd} (h : Wk P w mg base W) : Cal P w mg base 1 "_law_churn" 2 W f__law_churn := by
  obtain ⟨fd, F⟩ := h.def_ 38 _ rfl
  exact ⟨_, fd, ["_law_script", "_law_spot"], rfl, fn_38 h F, h.x_38, F.kp, bn_38 F⟩
theorem fn_39 {P : Program} {w : World} {mg : Str → Option Value} {base : Heap} {W : Wd} (h : Wk P w mg base W) {fd : FuncData} (F : FunD W.K "_law_ladle" "_law_ladle" (defArgs (top 65)) (defBody (top 65)) (defScope (top 65)) [] [] (He.ga W.K "_law_ladle") fd) : FnG P w W.K mg base 1 (He.ga W.K "_law_ladle") fd ["_law_churn_here", "_law_total"] (spN W 2 f__law_ladle) := by
  refine fn_ok (N := ["_law_churn_here", "_law_total", "_law_one", "_law_two", "_law_found"]) (d := d__law_ladle) rfl F ⟨rfl, rfl, rfl, by decide +kernel, rfl, by decide +kernel, by decide +kernel⟩ (.refl _) fun cdv A outer s H E hr J2 => ?_
  exact (ys_cons J2.toXJ (ys_if J2.toXJ (xt_cmp J2.toXJ op_gtA ok_cmp (xe_ix J2.toXJ (xe_var (i := 0) rfl (.inl lk_sc_39__law_churn_here) nd__law_churn_here nc__law_churn_here) xe_int) xe_int (nomark _)) (ys_cons J2.toXJ (ys_set (i := 4) J2.toXJ J2.nd rfl (.inl lk_sc_39__law_found) (xe_bin J2.toXJ op_mod ok_mod (xe_callTy J2.toXJ call_intX ok_intX lk_sc_39_int h.g.b_int bt_int (xa_cons J2.toXJ (xe_ix J2.toXJ (xe_var (i := 0) rfl (.inl lk_sc_39__law_churn_here) nd__law_churn_here nc__law_churn_here) xe_int) xa_nil) nn_int nd_int) (xe_var (i := 1) rfl (.inl lk_sc_39__law_total) nd__law_total nc__law_total)) (by rfl) (.inl rfl)) (ys_cons J2.toXJ (ys_sub J2.toXJ set_list ok_setL (xe_var (i := 0) rfl (.inl lk_sc_39__law_churn_here) nd__law_churn_here nc__law_churn_here) xe_int (xe_bin J2.toXJ op_fdivW ok_fdiv (xe_ix J2.toXJ (xe_var (i := 0) rfl (.inl lk_sc_39__law_churn_here) nd__law_churn_here nc__law_churn_here) xe_int) (xe_var (i := 1) rfl (.inl lk_sc_39__law_total) nd__law_total nc__law_total))) (ys_one (ys_ret J2.toXJ (xe_var (i := 4) rfl (.inl lk_sc_39__law_found) nd__law_found nc__law_found))))) ys_nil) (ys_cons J2.toXJ (ys_sub J2.toXJ set_list ok_setL (xe_var (i := 0) rfl (.inl lk_sc_39__law_churn_here) nd__law_churn_here nc__law_churn_here) xe_int (xe_bin J2.toXJ op_addA (by rw [← J2.toXJ.K]; exact ok_add) (xe_ix J2.toXJ (xe_var (i := 0) rfl (.inl lk_sc_39__law_churn_here) nd__law_churn_here nc__law_churn_here) xe_int) xe_int)) (ys_cons J2.toXJ (ys_set (i := 2) J2.toXJ J2.nd rfl (.inl lk_sc_39__law_one) (xe_bin J2.toXJ op_mod ok_mod (xe_callTy J2.toXJ call_intX ok_intX lk_sc_39_int h.g.b_int bt_int (xa_cons J2.toXJ (xe_bin J2.toXJ op_addA (by rw [← J2.toXJ.K]; exact ok_add) (xe_ix J2.toXJ (xe_var (i := 0) rfl (.inl lk_sc_39__law_churn_here) nd__law_churn_here nc__law_churn_here) xe_int) (xe_bin J2.toXJ op_mulA (by rw [← J2.toXJ.K]; exact ok_mul) xe_int (xe_ix J2.toXJ (xe_var (i := 0) rfl (.inl lk_sc_39__law_churn_here) nd__law_churn_here nc__law_churn_here) xe_int))) xa_nil) nn_int nd_int) xe_int) (by rfl) (.inl rfl)) (ys_cons J2.toXJ (ys_set (i := 3) J2.toXJ J2.nd rfl (.inl lk_sc_39__law_two) (xe_bin J2.toXJ op_addA (by rw [← J2.toXJ.K]; exact ok_add) (xe_bin J2.toXJ op_mulA (by rw [← J2.toXJ.K]; exact ok_mul) (xe_bin J2.toXJ op_mod ok_mod (xe_callTy J2.toXJ call_intX ok_intX lk_sc_39_int h.g.b_int bt_int (xa_cons J2.toXJ (xe_bin J2.toXJ op_addA (by rw [← J2.toXJ.K]; exact ok_add) (xe_bin J2.toXJ op_mulA (by rw [← J2.toXJ.K]; exact ok_mul) (xe_var (i := 2) rfl (.inl lk_sc_39__law_one) nd__law_one nc__law_one) (xe_var (i := 2) rfl (.inl lk_sc_39__law_one) nd__law_one nc__law_one)) (xe_bin J2.toXJ op_mulA (by rw [← J2.toXJ.K]; exact ok_mul) xe_int (xe_ix J2.toXJ (xe_var (i := 0) rfl (.inl lk_sc_39__law_churn_here) nd__law_churn_here nc__law_churn_here) xe_int))) xa_nil) nn_int nd_int) xe_int) xe_int) (xe_var (i := 2) rfl (.inl lk_sc_39__law_one) nd__law_one nc__law_one)) (by rfl) (.inl rfl)) (ys_one (ys_ret J2.toXJ (xe_bin J2.toXJ op_mod ok_mod (xe_callTy J2.toXJ call_intX ok_intX lk_sc_39_int h.g.b_int bt_int (xa_cons J2.toXJ (xe_bin J2.toXJ op_fdivW ok_fdiv (xe_var (i := 3) rfl (.inl lk_sc_39__law_two) nd__law_two nc__law_two) xe_int) xa_nil) nn_int nd_int) (xe_var (i := 1) rfl (.inl lk_sc_39__law_total) nd__law_total nc__law_total))))))))
theorem bn_39 {K : PySem.W.Frag} {f : Addr} {fd : FuncData} (F : FunD K "_law_ladle" "_law_ladle" (defArgs (top 65)) (defBody (top 65)) (defScope (top 65)) [] [] f fd) : Binds K fd ["_law_churn_here", "_law_total"] [] := F.bindsN fun _ _ _ _ _ _ us hl => match us, hl with | [_, _], _ => rfl
theorem c_39 {P : Program} {w : World} {mg : Str → Option Value} {base : Heap} {W : Wd} (h : Wk P w mg base W) : Cal P w mg base 1 "_law_ladle" 2 W f__law_ladle := by
  obtain ⟨fd, F⟩ := h.def_ 39 _ rfl
  exact ⟨_, fd, ["_law_churn_here", "_law_total"], rfl, fn_39 h F, h.x_39, F.kp, bn_39 F⟩
theorem fn_40 {P : Program} {w : World} {mg : Str → Option Value} {base : Heap} {W : Wd} (h : Wk P w mg base W) {fd : FuncData} (F : FunD W.K "_law_spoon" "_law_spoon" (defArgs (top 66)) (defBody (top 66)) (defScope (top 66)) [] [] (He.ga W.K "_law_spoon") fd) : FnG P w W.K mg base 2 (He.ga W.K "_law_spoon") fd ["_law_churn_here", "_law_items"] (spN W 2 f__law_spoon) := by
  have hc_39 := c_39 h
  refine fn_ok (N := ["_law_churn_here", "_law_items"]) (d := d__law_spoon) rfl F ⟨rfl, rfl, rfl, by decide +kernel, rfl, by decide +kernel, by decide +kernel⟩ (.refl _) fun cdv A outer s H E hr J2 => ?_
  exact (ys_one (ys_ret J2.toXJ (xe_ix J2.toXJ (xe_var (i := 1) rfl (.inl lk_sc_40__law_items) nd__law_items nc__law_items) (xe_call J2 (hc_39.mono (by decide)) hr lk_sc_40__law_ladle (xa_cons J2.toXJ (xe_var (i := 0) rfl (.inl lk_sc_40__law_churn_here) nd__law_churn_here nc__law_churn_here) (xa_cons J2.toXJ (xe_callB J2.toXJ call_len (by rw [← J2.toXJ.K]; exact ok_len) lk_sc_40_len h.g.b_len bt_len (xa_cons J2.toXJ (xe_var (i := 1) rfl (.inl lk_sc_40__law_items) nd__law_items nc__law_items) xa_nil) nn_len nd_len) xa_nil)) nd__law_ladle))))
theorem bn_40 {K : PySem.W.Frag} {f : Addr} {fd : FuncData} (F : FunD K "_law_spoon" "_law_spoon" (defArgs (top 66)) (defBody (top 66)) (defScope (top 66)) [] [] f fd) : Binds K fd ["_law_churn_here", "_law_items"] [] := F.bindsN fun _ _ _ _ _ _ us hl => match us, hl with | [_, _], _ => rfl
theorem c_40 {P : Program} {w : World} {mg : Str → Option Value} {base : Heap} {W : Wd} (h : Wk P w mg base W) : Cal P w mg base 2 "_law_spoon" 2 W f__law_spoon := by
  obtain ⟨fd, F⟩ := h.def_ 40 _ rfl
  exact ⟨_, fd, ["_law_churn_here", "_law_items"], rfl, fn_40 h F, h.x_40, F.kp, bn_40 F⟩
theorem bn_41 {K : PySem.W.Frag} {f : Addr} {fd : FuncData} (F : FunD K "_law_met" "_law_met" (defArgs (top 67)) (defBody (top 67)) (defScope (top 67)) [] [] f fd) : Binds K fd ["_law_call"] [] := F.bindsN fun _ _ _ _ _ _ us hl => match us, hl with | [_], _ => rfl
theorem mt {P : Program} {w : World} {mg : Str → Option Value} {base : Heap} {W : Wd} (h : Wk P w mg base W) (k : Nat) : MetG P w W.K mg base W k "_law_met" subM hsM aftM := by
  obtain ⟨fd, F⟩ := h.def_ 41 _ rfl
  refine met_ok (N := ["_law_call", "error"]) (aft := [102, 105, 110, 101]) (by kernel_rfl) F ⟨rfl, rfl, rfl, by decide +kernel, rfl, by decide +kernel, by decide +kernel⟩ h.x_41 (bn_41 F) rfl (.inl lk_sc_41__law_call) nd__law_call nc__law_call fun cdv A outer s H f hr hg => ?_
  exact (mx_c (nm_of lk_sc_41_InvalidBody nd_InvalidBody h.c_InvalidBody) (by kernel_rfl) (fun n c e => tabB_ok h.xm (m := 0) rfl n c (by rw [← h.hca]; exact e)) (mx_c (nm_of lk_sc_41_InvalidText nd_InvalidText h.c_InvalidText) (by kernel_rfl) (fun n c e => tabB_ok h.xm (m := 1) rfl n c (by rw [← h.hca]; exact e)) (mx_c (nm_of lk_sc_41_InvalidOperation nd_InvalidOperation h.c_InvalidOperation) (by kernel_rfl) (fun n c e => tabB_ok h.xm (m := 2) rfl n c (by rw [← h.hca]; exact e)) (mx_f (i := 1) (m' := 3) (nm_of lk_sc_41_InvalidNumber nd_InvalidNumber h.c_InvalidNumber) (by kernel_rfl) (fun n c e => tabB_ok h.xm (m := 3) rfl n c (by rw [← h.hca]; exact e)) rfl (by rw [h.hca]; rfl) h.o_InvalidNumber.xf h.o_InvalidNumber.own.no (show List.Nodup (α := Str) ["_law_call", "error"] from by decide +kernel) rfl lk_sc_41_error (by simp [L2.start]) nd_error nc_error hg (u66 hr) lk_sc_41_repr h.g.b_repr mx_nil))))
theorem tab_ok {P : Program} {w : World} {mg : Str → Option Value} {base : Heap} {W : Wd} {k : Nat} (h : Wk P w mg base W) (hk : 8 ≤ k) : TabOk P w mg base k W ftab := fun j n F e => by
  match j, e with
  | 0, e =>
    cases e
    obtain ⟨f, fd, ps, h1, h2, h3, h4, h5⟩ := (c_35 h).ex
    cases h3.symm.trans h.x_35
    exact ⟨_, fd, ps, by rw [h.hfa]; rfl, h1, h2.mono (Nat.le_trans (by decide) hk), h4, h5⟩
  | 1, e =>
    cases e
    obtain ⟨f, fd, ps, h1, h2, h3, h4, h5⟩ := (c_34 h).ex
    cases h3.symm.trans h.x_34
    exact ⟨_, fd, ps, by rw [h.hfa]; rfl, h1, h2.mono (Nat.le_trans (by decide) hk), h4, h5⟩
  | 2, e =>
    cases e
    obtain ⟨f, fd, ps, h1, h2, h3, h4, h5⟩ := (c_30 h).ex
    cases h3.symm.trans h.x_30
    exact ⟨_, fd, ps, by rw [h.hfa]; rfl, h1, h2.mono (Nat.le_trans (by decide) hk), h4, h5⟩
  | 3, e =>
    cases e
    obtain ⟨f, fd, ps, h1, h2, h3, h4, h5⟩ := (c_29 h).ex
    cases h3.symm.trans h.x_29
    exact ⟨_, fd, ps, by rw [h.hfa]; rfl, h1, h2.mono (Nat.le_trans (by decide) hk), h4, h5⟩
  | 4, e =>
    cases e
    obtain ⟨f, fd, ps, h1, h2, h3, h4, h5⟩ := (c_33 h).ex
    cases h3.symm.trans h.x_33
    exact ⟨_, fd, ps, by rw [h.hfa]; rfl, h1, h2.mono (Nat.le_trans (by decide) hk), h4, h5⟩
  | 5, e =>
    cases e
    obtain ⟨f, fd, ps, h1, h2, h3, h4, h5⟩ := (c_32 h).ex
    cases h3.symm.trans h.x_32
    exact ⟨_, fd, ps, by rw [h.hfa]; rfl, h1, h2.mono (Nat.le_trans (by decide) hk), h4, h5⟩
  | 6, e =>
    cases e
    obtain ⟨f, fd, ps, h1, h2, h3, h4, h5⟩ := (c_31 h).ex
    cases h3.symm.trans h.x_31
    exact ⟨_, fd, ps, by rw [h.hfa]; rfl, h1, h2.mono (Nat.le_trans (by decide) hk), h4, h5⟩
  | _ + 7, e => cases e
theorem fn_42 {P : Program} {w : World} {mg : Str → Option Value} {base : Heap} {W : Wd} (h : Wk P w mg base W) {fd : FuncData} (F : FunD W.K "_law_bodies_right" "_law_bodies_right" (defArgs (top 68)) (defBody (top 68)) (defScope (top 68)) [] [] (He.ga W.K "_law_bodies_right") fd) : FnG P w W.K mg base 12 (He.ga W.K "_law_bodies_right") fd ["_law_churn_here"] (spN W 1 f__law_bodies_right) := by
  have hc_29 := c_29 h
  have hc_30 := c_30 h
  have hc_34 := c_34 h
  have hc_35 := c_35 h
  have hc_36 := c_36 h
  have hc_37 := c_37 h
  have hc_40 := c_40 h
  refine fn_okL (p := ("_law_bodies_right", none)) (N := ["_law_churn_here", "_law_bad", "_law_indices", "_law_at", "_law_body", "_law_told", "_law_call"]) (d := d__law_bodies_right) rfl F ⟨rfl, rfl, rfl, by decide +kernel, rfl, by decide +kernel, by decide +kernel⟩ (gcF_ref _) fun cdv A outer s H E hcv hr J2 => ?_
  exact (ys_cons J2.toXJ (ys_set (i := 1) J2.toXJ J2.nd rfl (.inr lk_sc_42__law_bad) (xe_call J2 (hc_40.mono (by decide)) hr lk_sc_42__law_spoon (xa_cons J2.toXJ (xe_var (i := 0) rfl (.inl lk_sc_42__law_churn_here) nd__law_churn_here nc__law_churn_here) (xa_cons J2.toXJ (xe_lst J2.toXJ (xa_cons J2.toXJ xe_non (xa_cons J2.toXJ xe_int (xa_cons J2.toXJ (xe_bin J2.toXJ op_mulA (by rw [← J2.toXJ.K]; exact ok_mul) (xe_lst J2.toXJ (xa_cons J2.toXJ xe_int xa_nil)) xe_int) (xa_cons J2.toXJ (xe_bin J2.toXJ op_mulA (by rw [← J2.toXJ.K]; exact ok_mul) (xe_tup J2.toXJ (xa_cons J2.toXJ xe_int xa_nil)) xe_int) (xa_cons J2.toXJ (xe_bin J2.toXJ op_mulA (by rw [← J2.toXJ.K]; exact ok_mul) (xe_tup J2.toXJ (xa_cons J2.toXJ xe_int xa_nil)) xe_int) (xa_cons J2.toXJ (xe_bin J2.toXJ op_mulA (by rw [← J2.toXJ.K]; exact ok_mul) (xe_tup J2.toXJ (xa_cons J2.toXJ xe_int xa_nil)) xe_int) (xa_cons J2.toXJ (xe_bin J2.toXJ op_mulA (by rw [← J2.toXJ.K]; exact ok_mul) (xe_tup J2.toXJ (xa_cons J2.toXJ (xe_un J2.toXJ un_neg ok_neg xe_int) xa_nil)) xe_int) (xa_cons J2.toXJ (xe_bin J2.toXJ op_mulA (by rw [← J2.toXJ.K]; exact ok_mul) (xe_tup J2.toXJ (xa_cons J2.toXJ xe_bl xa_nil)) xe_int) (xa_cons J2.toXJ (xe_bin J2.toXJ op_mulA (by rw [← J2.toXJ.K]; exact ok_mul) (xe_tup J2.toXJ (xa_cons J2.toXJ (xe_str (by kernel_rfl)) xa_nil)) xe_int) (xa_cons J2.toXJ xe_dict0 xa_nil))))))))))) xa_nil)) nd__law_spoon) (by rfl) (.inl rfl)) (ys_cons J2.toXJ (ys_set (i := 2) J2.toXJ J2.nd rfl (.inr lk_sc_42__law_indices) (xe_call J2 (hc_40.mono (by decide)) hr lk_sc_42__law_spoon (xa_cons J2.toXJ (xe_var (i := 0) rfl (.inl lk_sc_42__law_churn_here) nd__law_churn_here nc__law_churn_here) (xa_cons J2.toXJ (xe_lst J2.toXJ (xa_cons J2.toXJ xe_non (xa_cons J2.toXJ xe_int (xa_cons J2.toXJ (xe_lst J2.toXJ (xa_cons J2.toXJ xe_int xa_nil)) (xa_cons J2.toXJ (xe_tup J2.toXJ (xa_cons J2.toXJ xe_int (xa_cons J2.toXJ xe_int xa_nil))) (xa_cons J2.toXJ (xe_tup J2.toXJ (xa_cons J2.toXJ xe_int (xa_cons J2.toXJ xe_int xa_nil))) (xa_cons J2.toXJ (xe_tup J2.toXJ (xa_cons J2.toXJ xe_int xa_nil)) (xa_cons J2.toXJ (xe_tup J2.toXJ (xa_cons J2.toXJ (xe_un J2.toXJ un_neg ok_neg xe_int) xa_nil)) (xa_cons J2.toXJ (xe_tup J2.toXJ (xa_cons J2.toXJ xe_bl xa_nil)) (xa_cons J2.toXJ (xe_tup J2.toXJ (xa_cons J2.toXJ (xe_str (by kernel_rfl)) xa_nil)) (xa_cons J2.toXJ xe_dict0 (xa_cons J2.toXJ (xe_tup J2.toXJ (xa_cons J2.toXJ (xe_bin J2.toXJ op_powB ok_pow xe_int xe_int) xa_nil)) xa_nil)))))))))))) xa_nil)) nd__law_spoon) (by rfl) (.inl rfl)) (ys_cons J2.toXJ (ys_set (i := 3) J2.toXJ J2.nd rfl (.inr lk_sc_42__law_at) (xe_call J2 (hc_40.mono (by decide)) hr lk_sc_42__law_spoon (xa_cons J2.toXJ (xe_var (i := 0) rfl (.inl lk_sc_42__law_churn_here) nd__law_churn_here nc__law_churn_here) (xa_cons J2.toXJ (xe_lst J2.toXJ (xa_cons J2.toXJ xe_non (xa_cons J2.toXJ (xe_un J2.toXJ un_neg ok_neg xe_int) (xa_cons J2.toXJ xe_int (xa_cons J2.toXJ xe_bl (xa_cons J2.toXJ (xe_str (by kernel_rfl)) (xa_cons J2.toXJ (xe_tup J2.toXJ (xa_cons J2.toXJ xe_int xa_nil)) (xa_cons J2.toXJ (xe_bin J2.toXJ op_powB ok_pow xe_int xe_int) xa_nil)))))))) xa_nil)) nd__law_spoon) (by rfl) (.inl rfl)) (ys_cons J2.toXJ (ys_set (i := 4) J2.toXJ J2.nd rfl (.inr lk_sc_42__law_body) (xe_bin J2.toXJ op_mulA (by rw [← J2.toXJ.K]; exact ok_mul) (xe_tup J2.toXJ (xa_cons J2.toXJ xe_int xa_nil)) xe_int) (by rfl) (.inl rfl)) (ys_cons J2.toXJ (ys_set (i := 5) J2.toXJ J2.nd rfl (.inl lk_sc_42__law_told) (xe_lst J2.toXJ xa_nil) (by rfl) (.inl rfl)) (ys_cons J2.toXJ (ys_for J2 (xi_val J2.toXJ (xe_tup J2.toXJ (xa_cons J2.toXJ (xe_fn lk_sc_42_made_frame h.x_29 (by rw [h.hfa]; rfl) nd_made_frame) (xa_cons J2.toXJ (xe_fn lk_sc_42_frame_cells h.x_30 (by rw [h.hfa]; rfl) nd_frame_cells) xa_nil)))) (yg_nm (i := 6) J2.nd rfl (.inr lk_sc_42__law_call) (.inl rfl)) (ys_one (ys_expr J2.toXJ (xe_met J2.toXJ PySem.F.plainAttrs_list PySem.F.slot_list_append PySem.F.type_list_append mt_append ty_lst ok_append (xe_var (i := 5) rfl (.inl lk_sc_42__law_told) nd__law_told nc__law_told) (xa_cons J2.toXJ (xe_gc (xe_lam (k := 8) J2 (mt h _) (hr.mono (by decide)) lk_sc_42__law_met (h.tb _ (tmem (p := ("_law_bodies_right", none)) (by decide))) hcv (by rw [h.hT]; exact tabT_mem (p := ("_law_bodies_right", none)) (by decide)) (by rw [h.hT]; exact tabT_one h.hn (p := ("_law_bodies_right", none)) (by decide)) (LamX.lamS_by (by kernel_rfl)) rfl (fun _ _ _ _ _ => rfl) (fun A outer s H E f c_ hr B2 => (xe_callV (i := 6) B2 (tab_ok h (by decide)) hr rfl (.inr (.inr (by kernel_rfl))) (xa_cons B2.toXJ (xe_var (i := 1) rfl (.inr (.inr (by kernel_rfl))) nd__law_bad nc__law_bad) xa_nil) nd__law_call nc__law_call)) nd__law_met)) xa_nil))))) (ys_cons J2.toXJ (ys_for J2 (xi_val J2.toXJ (xe_tup J2.toXJ (xa_cons J2.toXJ (xe_fn lk_sc_42_agreeing h.x_34 (by rw [h.hfa]; rfl) nd_agreeing) (xa_cons J2.toXJ (xe_fn lk_sc_42_other_body h.x_35 (by rw [h.hfa]; rfl) nd_other_body) xa_nil)))) (yg_nm (i := 6) J2.nd rfl (.inr lk_sc_42__law_call) (.inl rfl)) (ys_one (ys_expr J2.toXJ (xe_met J2.toXJ PySem.F.plainAttrs_list PySem.F.slot_list_append PySem.F.type_list_append mt_append ty_lst ok_append (xe_var (i := 5) rfl (.inl lk_sc_42__law_told) nd__law_told nc__law_told) (xa_cons J2.toXJ (xe_gc (xe_lam (k := 8) J2 (mt h _) (hr.mono (by decide)) lk_sc_42__law_met (h.tb _ (tmem (p := ("_law_bodies_right", none)) (by decide))) hcv (by rw [h.hT]; exact tabT_mem (p := ("_law_bodies_right", none)) (by decide)) (by rw [h.hT]; exact tabT_one h.hn (p := ("_law_bodies_right", none)) (by decide)) (LamX.lamS_by (by kernel_rfl)) rfl (fun _ _ _ _ _ => rfl) (fun A outer s H E f c_ hr B2 => (xe_callV (i := 6) B2 (tab_ok h (by decide)) hr rfl (.inr (.inr (by kernel_rfl))) (xa_cons B2.toXJ (xe_var (i := 1) rfl (.inr (.inr (by kernel_rfl))) nd__law_bad nc__law_bad) (xa_cons B2.toXJ xe_non xa_nil)) nd__law_call nc__law_call)) nd__law_met)) xa_nil))))) (ys_cons J2.toXJ (ys_expr J2.toXJ (xe_met J2.toXJ PySem.F.plainAttrs_list PySem.F.slot_list_append PySem.F.type_list_append mt_append ty_lst ok_append (xe_var (i := 5) rfl (.inl lk_sc_42__law_told) nd__law_told nc__law_told) (xa_cons J2.toXJ (xe_gc (xe_lam (k := 8) J2 (mt h _) (hr.mono (by decide)) lk_sc_42__law_met (h.tb _ (tmem (p := ("_law_bodies_right", none)) (by decide))) hcv (by rw [h.hT]; exact tabT_mem (p := ("_law_bodies_right", none)) (by decide)) (by rw [h.hT]; exact tabT_one h.hn (p := ("_law_bodies_right", none)) (by decide)) (LamX.lamS_by (by kernel_rfl)) rfl (fun _ _ _ _ _ => rfl) (fun A outer s H E f c_ hr B2 => (xe_call B2 (hc_34.mono (by decide)) hr (gl_of (by kernel_rfl)) (xa_cons B2.toXJ (xe_var (i := 4) rfl (.inr (.inr (by kernel_rfl))) nd__law_body nc__law_body) (xa_cons B2.toXJ (xe_var (i := 1) rfl (.inr (.inr (by kernel_rfl))) nd__law_bad nc__law_bad) xa_nil)) nd_agreeing)) nd__law_met)) xa_nil))) (ys_cons J2.toXJ (ys_expr J2.toXJ (xe_met J2.toXJ PySem.F.plainAttrs_list PySem.F.slot_list_append PySem.F.type_list_append mt_append ty_lst ok_append (xe_var (i := 5) rfl (.inl lk_sc_42__law_told) nd__law_told nc__law_told) (xa_cons J2.toXJ (xe_gc (xe_lam (k := 8) J2 (mt h _) (hr.mono (by decide)) lk_sc_42__law_met (h.tb _ (tmem (p := ("_law_bodies_right", none)) (by decide))) hcv (by rw [h.hT]; exact tabT_mem (p := ("_law_bodies_right", none)) (by decide)) (by rw [h.hT]; exact tabT_one h.hn (p := ("_law_bodies_right", none)) (by decide)) (LamX.lamS_by (by kernel_rfl)) rfl (fun _ _ _ _ _ => rfl) (fun A outer s H E f c_ hr B2 => (xe_call B2 (hc_36.mono (by decide)) hr (gl_of (by kernel_rfl)) (xa_cons B2.toXJ (xe_var (i := 1) rfl (.inr (.inr (by kernel_rfl))) nd__law_bad nc__law_bad) (xa_cons B2.toXJ (xe_var (i := 2) rfl (.inr (.inr (by kernel_rfl))) nd__law_indices nc__law_indices) (xa_cons B2.toXJ xe_non xa_nil))) nd_is_other_body)) nd__law_met)) xa_nil))) (ys_cons J2.toXJ (ys_expr J2.toXJ (xe_met J2.toXJ PySem.F.plainAttrs_list PySem.F.slot_list_append PySem.F.type_list_append mt_append ty_lst ok_append (xe_var (i := 5) rfl (.inl lk_sc_42__law_told) nd__law_told nc__law_told) (xa_cons J2.toXJ (xe_gc (xe_lam (k := 8) J2 (mt h _) (hr.mono (by decide)) lk_sc_42__law_met (h.tb _ (tmem (p := ("_law_bodies_right", none)) (by decide))) hcv (by rw [h.hT]; exact tabT_mem (p := ("_law_bodies_right", none)) (by decide)) (by rw [h.hT]; exact tabT_one h.hn (p := ("_law_bodies_right", none)) (by decide)) (LamX.lamS_by (by kernel_rfl)) rfl (fun _ _ _ _ _ => rfl) (fun A outer s H E f c_ hr B2 => (xe_call B2 (hc_37.mono (by decide)) hr (gl_of (by kernel_rfl)) (xa_cons B2.toXJ (xe_var (i := 1) rfl (.inr (.inr (by kernel_rfl))) nd__law_bad nc__law_bad) (xa_cons B2.toXJ (xe_var (i := 1) rfl (.inr (.inr (by kernel_rfl))) nd__law_bad nc__law_bad) (xa_cons B2.toXJ (xe_var (i := 3) rfl (.inr (.inr (by kernel_rfl))) nd__law_at nc__law_at) xa_nil))) nd_spliced)) nd__law_met)) xa_nil))) (ys_cons J2.toXJ (ys_expr J2.toXJ (xe_met J2.toXJ PySem.F.plainAttrs_list PySem.F.slot_list_append PySem.F.type_list_append mt_append ty_lst ok_append (xe_var (i := 5) rfl (.inl lk_sc_42__law_told) nd__law_told nc__law_told) (xa_cons J2.toXJ (xe_gc (xe_lam (k := 8) J2 (mt h _) (hr.mono (by decide)) lk_sc_42__law_met (h.tb _ (tmem (p := ("_law_bodies_right", none)) (by decide))) hcv (by rw [h.hT]; exact tabT_mem (p := ("_law_bodies_right", none)) (by decide)) (by rw [h.hT]; exact tabT_one h.hn (p := ("_law_bodies_right", none)) (by decide)) (LamX.lamS_by (by kernel_rfl)) rfl (fun _ _ _ _ _ => rfl) (fun A outer s H E f c_ hr B2 => (xe_call B2 (hc_37.mono (by decide)) hr (gl_of (by kernel_rfl)) (xa_cons B2.toXJ (xe_var (i := 4) rfl (.inr (.inr (by kernel_rfl))) nd__law_body nc__law_body) (xa_cons B2.toXJ (xe_var (i := 1) rfl (.inr (.inr (by kernel_rfl))) nd__law_bad nc__law_bad) (xa_cons B2.toXJ (xe_var (i := 3) rfl (.inr (.inr (by kernel_rfl))) nd__law_at nc__law_at) xa_nil))) nd_spliced)) nd__law_met)) xa_nil))) (ys_cons J2.toXJ (ys_expr J2.toXJ (xe_met J2.toXJ PySem.F.plainAttrs_list PySem.F.slot_list_append PySem.F.type_list_append mt_append ty_lst ok_append (xe_var (i := 5) rfl (.inl lk_sc_42__law_told) nd__law_told nc__law_told) (xa_cons J2.toXJ (xe_gc (xe_lam (k := 8) J2 (mt h _) (hr.mono (by decide)) lk_sc_42__law_met (h.tb _ (tmem (p := ("_law_bodies_right", none)) (by decide))) hcv (by rw [h.hT]; exact tabT_mem (p := ("_law_bodies_right", none)) (by decide)) (by rw [h.hT]; exact tabT_one h.hn (p := ("_law_bodies_right", none)) (by decide)) (LamX.lamS_by (by kernel_rfl)) rfl (fun _ _ _ _ _ => rfl) (fun A outer s H E f c_ hr B2 => (xe_call B2 (hc_35.mono (by decide)) hr (gl_of (by kernel_rfl)) (xa_cons B2.toXJ (xe_var (i := 4) rfl (.inr (.inr (by kernel_rfl))) nd__law_body nc__law_body) (xa_cons B2.toXJ (xe_var (i := 2) rfl (.inr (.inr (by kernel_rfl))) nd__law_indices nc__law_indices) xa_nil)) nd_other_body)) nd__law_met)) xa_nil))) (ys_cons J2.toXJ (ys_expr J2.toXJ (xe_met J2.toXJ PySem.F.plainAttrs_list PySem.F.slot_list_append PySem.F.type_list_append mt_append ty_lst ok_append (xe_var (i := 5) rfl (.inl lk_sc_42__law_told) nd__law_told nc__law_told) (xa_cons J2.toXJ (xe_gc (xe_lam (k := 8) J2 (mt h _) (hr.mono (by decide)) lk_sc_42__law_met (h.tb _ (tmem (p := ("_law_bodies_right", none)) (by decide))) hcv (by rw [h.hT]; exact tabT_mem (p := ("_law_bodies_right", none)) (by decide)) (by rw [h.hT]; exact tabT_one h.hn (p := ("_law_bodies_right", none)) (by decide)) (LamX.lamS_by (by kernel_rfl)) rfl (fun _ _ _ _ _ => rfl) (fun A outer s H E f c_ hr B2 => (xe_call B2 (hc_36.mono (by decide)) hr (gl_of (by kernel_rfl)) (xa_cons B2.toXJ (xe_var (i := 4) rfl (.inr (.inr (by kernel_rfl))) nd__law_body nc__law_body) (xa_cons B2.toXJ (xe_var (i := 2) rfl (.inr (.inr (by kernel_rfl))) nd__law_indices nc__law_indices) (xa_cons B2.toXJ (xe_var (i := 4) rfl (.inr (.inr (by kernel_rfl))) nd__law_body nc__law_body) xa_nil))) nd_is_other_body)) nd__law_met)) xa_nil))) (ys_cons J2.toXJ (ys_expr J2.toXJ (xe_met J2.toXJ PySem.F.plainAttrs_list PySem.F.slot_list_append PySem.F.type_list_append mt_append ty_lst ok_append (xe_var (i := 5) rfl (.inl lk_sc_42__law_told) nd__law_told nc__law_told) (xa_cons J2.toXJ (xe_gc (xe_lam (k := 8) J2 (mt h _) (hr.mono (by decide)) lk_sc_42__law_met (h.tb _ (tmem (p := ("_law_bodies_right", none)) (by decide))) hcv (by rw [h.hT]; exact tabT_mem (p := ("_law_bodies_right", none)) (by decide)) (by rw [h.hT]; exact tabT_one h.hn (p := ("_law_bodies_right", none)) (by decide)) (LamX.lamS_by (by kernel_rfl)) rfl (fun _ _ _ _ _ => rfl) (fun A outer s H E f c_ hr B2 => (xe_call B2 (hc_35.mono (by decide)) hr (gl_of (by kernel_rfl)) (xa_cons B2.toXJ (xe_var (i := 4) rfl (.inr (.inr (by kernel_rfl))) nd__law_body nc__law_body) (xa_cons B2.toXJ (xe_tupR1 B2 (gl_of (by kernel_rfl)) h.g.b_tuple (gl_of (by kernel_rfl)) h.g.b_range xe_int) xa_nil)) nd_other_body)) nd__law_met)) xa_nil))) (ys_cons J2.toXJ (ys_expr J2.toXJ (xe_met J2.toXJ PySem.F.plainAttrs_list PySem.F.slot_list_append PySem.F.type_list_append mt_append ty_lst ok_append (xe_var (i := 5) rfl (.inl lk_sc_42__law_told) nd__law_told nc__law_told) (xa_cons J2.toXJ (xe_gc (xe_lam (k := 8) J2 (mt h _) (hr.mono (by decide)) lk_sc_42__law_met (h.tb _ (tmem (p := ("_law_bodies_right", none)) (by decide))) hcv (by rw [h.hT]; exact tabT_mem (p := ("_law_bodies_right", none)) (by decide)) (by rw [h.hT]; exact tabT_one h.hn (p := ("_law_bodies_right", none)) (by decide)) (LamX.lamS_by (by kernel_rfl)) rfl (fun _ _ _ _ _ => rfl) (fun A outer s H E f c_ hr B2 => (xe_call B2 (hc_36.mono (by decide)) hr (gl_of (by kernel_rfl)) (xa_cons B2.toXJ (xe_var (i := 4) rfl (.inr (.inr (by kernel_rfl))) nd__law_body nc__law_body) (xa_cons B2.toXJ (xe_tupR2 B2 (gl_of (by kernel_rfl)) h.g.b_tuple (gl_of (by kernel_rfl)) h.g.b_range xe_int xe_int) (xa_cons B2.toXJ xe_non xa_nil))) nd_is_other_body)) nd__law_met)) xa_nil))) (ys_cons J2.toXJ (ys_expr J2.toXJ (xe_met J2.toXJ PySem.F.plainAttrs_list PySem.F.slot_list_append PySem.F.type_list_append mt_append ty_lst ok_append (xe_var (i := 5) rfl (.inl lk_sc_42__law_told) nd__law_told nc__law_told) (xa_cons J2.toXJ (xe_gc (xe_lam (k := 8) J2 (mt h _) (hr.mono (by decide)) lk_sc_42__law_met (h.tb _ (tmem (p := ("_law_bodies_right", none)) (by decide))) hcv (by rw [h.hT]; exact tabT_mem (p := ("_law_bodies_right", none)) (by decide)) (by rw [h.hT]; exact tabT_one h.hn (p := ("_law_bodies_right", none)) (by decide)) (LamX.lamS_by (by kernel_rfl)) rfl (fun _ _ _ _ _ => rfl) (fun A outer s H E f c_ hr B2 => (xe_call B2 (hc_37.mono (by decide)) hr (gl_of (by kernel_rfl)) (xa_cons B2.toXJ (xe_var (i := 4) rfl (.inr (.inr (by kernel_rfl))) nd__law_body nc__law_body) (xa_cons B2.toXJ (xe_var (i := 4) rfl (.inr (.inr (by kernel_rfl))) nd__law_body nc__law_body) (xa_cons B2.toXJ (xe_var (i := 3) rfl (.inr (.inr (by kernel_rfl))) nd__law_at nc__law_at) xa_nil))) nd_spliced)) nd__law_met)) xa_nil))) (ys_cons J2.toXJ (ys_expr J2.toXJ (xe_met J2.toXJ PySem.F.plainAttrs_list PySem.F.slot_list_append PySem.F.type_list_append mt_append ty_lst ok_append (xe_var (i := 5) rfl (.inl lk_sc_42__law_told) nd__law_told nc__law_told) (xa_cons J2.toXJ (xe_gc (xe_lam (k := 8) J2 (mt h _) (hr.mono (by decide)) lk_sc_42__law_met (h.tb _ (tmem (p := ("_law_bodies_right", none)) (by decide))) hcv (by rw [h.hT]; exact tabT_mem (p := ("_law_bodies_right", none)) (by decide)) (by rw [h.hT]; exact tabT_one h.hn (p := ("_law_bodies_right", none)) (by decide)) (LamX.lamS_by (by kernel_rfl)) rfl (fun _ _ _ _ _ => rfl) (fun A outer s H E f c_ hr B2 => (xe_call B2 (hc_37.mono (by decide)) hr (gl_of (by kernel_rfl)) (xa_cons B2.toXJ (xe_var (i := 4) rfl (.inr (.inr (by kernel_rfl))) nd__law_body nc__law_body) (xa_cons B2.toXJ (xe_var (i := 4) rfl (.inr (.inr (by kernel_rfl))) nd__law_body nc__law_body) (xa_cons B2.toXJ xe_int xa_nil))) nd_spliced)) nd__law_met)) xa_nil))) (ys_one (ys_ret J2.toXJ (xe_cmp J2.toXJ (op_eqA hr.units) (by rw [← J2.toXJ.K]; exact ok_eq) (xe_var (i := 5) rfl (.inl lk_sc_42__law_told) nd__law_told nc__law_told) (xe_bin J2.toXJ op_addA (by rw [← J2.toXJ.K]; exact ok_add) (xe_bin J2.toXJ op_addA (by rw [← J2.toXJ.K]; exact ok_add) (xe_bin J2.toXJ op_mulA (by rw [← J2.toXJ.K]; exact ok_mul) (xe_lst J2.toXJ (xa_cons J2.toXJ (xe_str (by kernel_rfl)) xa_nil)) xe_int) (xe_bin J2.toXJ op_mulA (by rw [← J2.toXJ.K]; exact ok_mul) (xe_lst J2.toXJ (xa_cons J2.toXJ (xe_str (by kernel_rfl)) xa_nil)) xe_int)) (xe_lst J2.toXJ (xa_cons J2.toXJ (xe_bin J2.toXJ op_addA (by rw [← J2.toXJ.K]; exact ok_add) (xe_str (by kernel_rfl)) (xe_callB J2.toXJ (call_reprA J2.gd (u66 hr)) (by rw [← J2.toXJ.K]; exact ok_repr) lk_sc_42_repr h.g.b_repr bt_repr (xa_cons J2.toXJ (xe_var (i := 3) rfl (.inr (.inl lk_sc_42__law_at)) nd__law_at nc__law_at) xa_nil) nn_repr nd_repr)) (xa_cons J2.toXJ (xe_str (by kernel_rfl)) xa_nil)))) (nomark _)))))))))))))))))))))
theorem bn_42 {K : PySem.W.Frag} {f : Addr} {fd : FuncData} (F : FunD K "_law_bodies_right" "_law_bodies_right" (defArgs (top 68)) (defBody (top 68)) (defScope (top 68)) [] [] f fd) : Binds K fd ["_law_churn_here"] [] := F.bindsN fun _ _ _ _ _ _ us hl => match us, hl with | [_], _ => rfl
theorem c_42 {P : Program} {w : World} {mg : Str → Option Value} {base : Heap} {W : Wd} (h : Wk P w mg base W) : Cal P w mg base 12 "_law_bodies_right" 1 W f__law_bodies_right := by
  obtain ⟨fd, F⟩ := h.def_ 42 _ rfl
  exact ⟨_, fd, ["_law_churn_here"], rfl, fn_42 h F, h.x_42, F.kp, bn_42 F⟩
theorem fn_43 {P : Program} {w : World} {mg : Str → Option Value} {base : Heap} {W : Wd} (h : Wk P w mg base W) {fd : FuncData} (F : FunD W.K "_law_texts_right" "_law_texts_right" (defArgs (top 69)) (defBody (top 69)) (defScope (top 69)) [] [] (He.ga W.K "_law_texts_right") fd) : FnG P w W.K mg base 12 (He.ga W.K "_law_texts_right") fd ["_law_churn_here"] (spN W 1 f__law_texts_right) := by
  have hc_31 := c_31 h
  have hc_32 := c_32 h
  have hc_33 := c_33 h
  have hc_39 := c_39 h
  have hc_40 := c_40 h
  refine fn_okL (p := ("_law_texts_right", none)) (N := ["_law_churn_here", "_law_bad", "_law_told", "_law_call"]) (d := d__law_texts_right) rfl F ⟨rfl, rfl, rfl, by decide +kernel, rfl, by decide +kernel, by decide +kernel⟩ (gcF_ref _) fun cdv A outer s H E hcv hr J2 => ?_
  exact (ys_cons J2.toXJ (ys_set (i := 1) J2.toXJ J2.nd rfl (.inr lk_sc_43__law_bad) (xe_call J2 (hc_40.mono (by decide)) hr lk_sc_43__law_spoon (xa_cons J2.toXJ (xe_var (i := 0) rfl (.inr (.inl lk_sc_43__law_churn_here)) nd__law_churn_here nc__law_churn_here) (xa_cons J2.toXJ (xe_lst J2.toXJ (xa_cons J2.toXJ xe_non (xa_cons J2.toXJ xe_int (xa_cons J2.toXJ (xe_lst J2.toXJ (xa_cons J2.toXJ (xe_str (by kernel_rfl)) xa_nil)) (xa_cons J2.toXJ (xe_tup J2.toXJ (xa_cons J2.toXJ (xe_str (by kernel_rfl)) xa_nil)) (xa_cons J2.toXJ xe_dict0 (xa_cons J2.toXJ xe_bl (xa_cons J2.toXJ (xe_bin J2.toXJ op_powB ok_pow xe_int xe_int) xa_nil)))))))) xa_nil)) nd__law_spoon) (by rfl) (.inl rfl)) (ys_cons J2.toXJ (ys_set (i := 2) J2.toXJ J2.nd rfl (.inl lk_sc_43__law_told) (xe_lst J2.toXJ xa_nil) (by rfl) (.inl rfl)) (ys_cons J2.toXJ (ys_for J2 (xi_val J2.toXJ (xe_tup J2.toXJ (xa_cons J2.toXJ (xe_fn lk_sc_43_told_frame h.x_31 (by rw [h.hfa]; rfl) nd_told_frame) (xa_cons J2.toXJ (xe_fn lk_sc_43_found_frames h.x_32 (by rw [h.hfa]; rfl) nd_found_frames) (xa_cons J2.toXJ (xe_fn lk_sc_43_bodies_in h.x_33 (by rw [h.hfa]; rfl) nd_bodies_in) xa_nil))))) (yg_nm (i := 3) J2.nd rfl (.inr lk_sc_43__law_call) (.inl rfl)) (ys_one (ys_expr J2.toXJ (xe_met J2.toXJ PySem.F.plainAttrs_list PySem.F.slot_list_append PySem.F.type_list_append mt_append ty_lst ok_append (xe_var (i := 2) rfl (.inl lk_sc_43__law_told) nd__law_told nc__law_told) (xa_cons J2.toXJ (xe_gc (xe_lam (k := 8) J2 (mt h _) (hr.mono (by decide)) lk_sc_43__law_met (h.tb _ (tmem (p := ("_law_texts_right", none)) (by decide))) hcv (by rw [h.hT]; exact tabT_mem (p := ("_law_texts_right", none)) (by decide)) (by rw [h.hT]; exact tabT_one h.hn (p := ("_law_texts_right", none)) (by decide)) (LamX.lamS_by (by kernel_rfl)) rfl (fun _ _ _ _ _ => rfl) (fun A outer s H E f c_ hr B2 => (xe_callV (i := 3) B2 (tab_ok h (by decide)) hr rfl (.inr (.inr (by kernel_rfl))) (xa_cons B2.toXJ (xe_var (i := 1) rfl (.inr (.inr (by kernel_rfl))) nd__law_bad nc__law_bad) xa_nil) nd__law_call nc__law_call)) nd__law_met)) xa_nil))))) (ys_cons J2.toXJ (ys_for J2 (xi_val J2.toXJ (xe_tup J2.toXJ (xa_cons J2.toXJ (xe_fn lk_sc_43_told_frame h.x_31 (by rw [h.hfa]; rfl) nd_told_frame) (xa_cons J2.toXJ (xe_fn lk_sc_43_found_frames h.x_32 (by rw [h.hfa]; rfl) nd_found_frames) (xa_cons J2.toXJ (xe_fn lk_sc_43_bodies_in h.x_33 (by rw [h.hfa]; rfl) nd_bodies_in) xa_nil))))) (yg_nm (i := 3) J2.nd rfl (.inr lk_sc_43__law_call) (.inl rfl)) (ys_one (ys_expr J2.toXJ (xe_met J2.toXJ PySem.F.plainAttrs_list PySem.F.slot_list_append PySem.F.type_list_append mt_append ty_lst ok_append (xe_var (i := 2) rfl (.inl lk_sc_43__law_told) nd__law_told nc__law_told) (xa_cons J2.toXJ (xe_gc (xe_lam (k := 8) J2 (mt h _) (hr.mono (by decide)) lk_sc_43__law_met (h.tb _ (tmem (p := ("_law_texts_right", none)) (by decide))) hcv (by rw [h.hT]; exact tabT_mem (p := ("_law_texts_right", none)) (by decide)) (by rw [h.hT]; exact tabT_one h.hn (p := ("_law_texts_right", none)) (by decide)) (LamX.lamS_by (by kernel_rfl)) rfl (fun _ _ _ _ _ => rfl) (fun A outer s H E f c_ hr B2 => (xe_callV (i := 3) B2 (tab_ok h (by decide)) hr rfl (.inr (.inr (by kernel_rfl))) (xa_cons B2.toXJ (xe_bin B2.toXJ op_mulA (by rw [← B2.toXJ.K]; exact ok_mul) (xe_str (by kernel_rfl)) (xe_bin B2.toXJ op_addA (by rw [← B2.toXJ.K]; exact ok_add) xe_int (xe_call B2 (hc_39.mono (by decide)) hr (gl_of (by kernel_rfl)) (xa_cons B2.toXJ (xe_var (i := 0) rfl (.inr (.inr (by kernel_rfl))) nd__law_churn_here nc__law_churn_here) (xa_cons B2.toXJ xe_int xa_nil)) nd__law_ladle))) xa_nil) nd__law_call nc__law_call)) nd__law_met)) xa_nil))))) (ys_one (ys_ret J2.toXJ (xe_cmp J2.toXJ (op_eqA hr.units) (by rw [← J2.toXJ.K]; exact ok_eq) (xe_var (i := 2) rfl (.inl lk_sc_43__law_told) nd__law_told nc__law_told) (xe_bin J2.toXJ op_addA (by rw [← J2.toXJ.K]; exact ok_add) (xe_bin J2.toXJ op_mulA (by rw [← J2.toXJ.K]; exact ok_mul) (xe_lst J2.toXJ (xa_cons J2.toXJ (xe_str (by kernel_rfl)) xa_nil)) xe_int) (xe_bin J2.toXJ op_mulA (by rw [← J2.toXJ.K]; exact ok_mul) (xe_lst J2.toXJ (xa_cons J2.toXJ (xe_str (by kernel_rfl)) xa_nil)) xe_int)) (nomark _))))))))
theorem bn_43 {K : PySem.W.Frag} {f : Addr} {fd : FuncData} (F : FunD K "_law_texts_right" "_law_texts_right" (defArgs (top 69)) (defBody (top 69)) (defScope (top 69)) [] [] f fd) : Binds K fd ["_law_churn_here"] [] := F.bindsN fun _ _ _ _ _ _ us hl => match us, hl with | [_], _ => rfl
theorem c_43 {P : Program} {w : World} {mg : Str → Option Value} {base : Heap} {W : Wd} (h : Wk P w mg base W) : Cal P w mg base 12 "_law_texts_right" 1 W f__law_texts_right := by
  obtain ⟨fd, F⟩ := h.def_ 43 _ rfl
  exact ⟨_, fd, ["_law_churn_here"], rfl, fn_43 h F, h.x_43, F.kp, bn_43 F⟩
theorem fn_44 {P : Program} {w : World} {mg : Str → Option Value} {base : Heap} {W : Wd} (h : Wk P w mg base W) {fd : FuncData} (F : FunD W.K "law" "law" (defArgs (top 70)) (defBody (top 70)) (defScope (top 70)) [] [] (He.ga W.K "law") fd) : FnG P w W.K mg base 13 (He.ga W.K "law") fd ["_law_script"] (spN W 1 f_law) := by
  have hc_31 := c_31 h
  have hc_32 := c_32 h
  have hc_33 := c_33 h
  have hc_35 := c_35 h
  have hc_38 := c_38 h
  have hc_42 := c_42 h
  have hc_43 := c_43 h
  refine fn_okL (p := ("law", none)) (N := ["_law_script", "_law_spot", "_law_told", "_law_call", "_law_churn_here"]) (d := d_law) rfl F ⟨rfl, rfl, rfl, by decide +kernel, rfl, by decide +kernel, by decide +kernel⟩ (.refl _) fun cdv A outer s H E hcv hr J2 => ?_
  exact (ys_cons J2.toXJ (ys_for J2 (xi_rng1 J2.toXJ lk_sc_44_range h.g.b_range (xa_cons J2.toXJ (xe_callB J2.toXJ (CallR.or (call_max2 J2.cm) (cr_max J2.cm)) (by rw [← J2.toXJ.K]; exact ok_max) lk_sc_44_max h.g.b_max bt_max (xa_cons J2.toXJ xe_int (xa_cons J2.toXJ (xe_callB J2.toXJ (CallR.or (call_min2 J2.cm) (cr_min J2.cm)) (by rw [← J2.toXJ.K]; exact ok_min) lk_sc_44_min h.g.b_min bt_min (xa_cons J2.toXJ xe_int (xa_cons J2.toXJ (xe_callB J2.toXJ call_len (by rw [← J2.toXJ.K]; exact ok_len) lk_sc_44_len h.g.b_len bt_len (xa_cons J2.toXJ (xe_var (i := 0) rfl (.inl lk_sc_44__law_script) nd__law_script nc__law_script) xa_nil) nn_len nd_len) xa_nil)) nn_min nd_min) xa_nil)) nn_max nd_max) xa_nil)) (yg_nm (i := 1) J2.nd rfl (.inl lk_sc_44__law_spot) (.inl rfl)) (yss_gc (ys_cons J2.toXJ (ys_set (i := 4) J2.toXJ J2.nd rfl (.inl lk_sc_44__law_churn_here) (xe_call J2 (hc_38.mono (by decide)) hr lk_sc_44__law_churn (xa_cons J2.toXJ (xe_var (i := 0) rfl (.inl lk_sc_44__law_script) nd__law_script nc__law_script) (xa_cons J2.toXJ (xe_var (i := 1) rfl (.inl lk_sc_44__law_spot) nd__law_spot nc__law_spot) xa_nil)) nd__law_churn) (by rfl) (.inl rfl)) (ys_one (ys_if J2.toXJ (xw_or J2.toXJ (xt_not J2.toXJ (xt_val J2.toXJ (xe_call J2 (hc_42.mono (by decide)) hr lk_sc_44__law_bodies_right (xa_cons J2.toXJ (xe_var (i := 4) rfl (.inl lk_sc_44__law_churn_here) nd__law_churn_here nc__law_churn_here) xa_nil) nd__law_bodies_right))) (xw_or1 (xt_not J2.toXJ (xt_val J2.toXJ (xe_call J2 (hc_43.mono (by decide)) hr lk_sc_44__law_texts_right (xa_cons J2.toXJ (xe_var (i := 4) rfl (.inl lk_sc_44__law_churn_here) nd__law_churn_here nc__law_churn_here) xa_nil) nd__law_texts_right))))).pt yss_never ys_nil))))) (ys_cons J2.toXJ (ys_set (i := 2) J2.toXJ J2.nd rfl (.inl lk_sc_44__law_told) (xe_lst J2.toXJ (xa_cons J2.toXJ (xe_gc (xe_lam (k := 8) J2 (mt h _) (hr.mono (by decide)) lk_sc_44__law_met (h.tb _ (tmem (p := ("law", none)) (by decide))) hcv (by rw [h.hT]; exact tabT_mem (p := ("law", none)) (by decide)) (by rw [h.hT]; exact tabT_one h.hn (p := ("law", none)) (by decide)) (LamX.lamS_by (by kernel_rfl)) rfl (fun _ _ _ _ _ => rfl) (fun A outer s H E f c_ hr B2 => (xe_call B2 (hc_35.mono (by decide)) hr (gl_of (by kernel_rfl)) (xa_cons B2.toXJ (xe_bin B2.toXJ op_mulA (by rw [← B2.toXJ.K]; exact ok_mul) (xe_tup B2.toXJ (xa_cons B2.toXJ xe_int xa_nil)) xe_int) (xa_cons B2.toXJ (xe_tupR2 B2 (gl_of (by kernel_rfl)) h.g.b_tuple (gl_of (by kernel_rfl)) h.g.b_range xe_int xe_int) xa_nil)) nd_other_body)) nd__law_met)) xa_nil)) (by rfl) (.inl rfl)) (ys_cons J2.toXJ (ys_expr J2.toXJ (xe_met J2.toXJ PySem.F.plainAttrs_list PySem.F.slot_list_append PySem.F.type_list_append mt_append ty_lst ok_append (xe_var (i := 2) rfl (.inl lk_sc_44__law_told) nd__law_told nc__law_told) (xa_cons J2.toXJ (xe_gc (xe_lam (k := 8) J2 (mt h _) (hr.mono (by decide)) lk_sc_44__law_met (h.tb _ (tmem (p := ("law", none)) (by decide))) hcv (by rw [h.hT]; exact tabT_mem (p := ("law", none)) (by decide)) (by rw [h.hT]; exact tabT_one h.hn (p := ("law", none)) (by decide)) (LamX.lamS_by (by kernel_rfl)) rfl (fun _ _ _ _ _ => rfl) (fun A outer s H E f c_ hr B2 => (xe_call B2 (hc_35.mono (by decide)) hr (gl_of (by kernel_rfl)) (xa_cons B2.toXJ (xe_bin B2.toXJ op_mulA (by rw [← B2.toXJ.K]; exact ok_mul) (xe_tup B2.toXJ (xa_cons B2.toXJ xe_int xa_nil)) xe_int) (xa_cons B2.toXJ (xe_tup B2.toXJ xa_nil) xa_nil)) nd_other_body)) nd__law_met)) xa_nil))) (ys_cons J2.toXJ (ys_for J2 (xi_val J2.toXJ (xe_tup J2.toXJ (xa_cons J2.toXJ (xe_fn lk_sc_44_told_frame h.x_31 (by rw [h.hfa]; rfl) nd_told_frame) (xa_cons J2.toXJ (xe_fn lk_sc_44_found_frames h.x_32 (by rw [h.hfa]; rfl) nd_found_frames) (xa_cons J2.toXJ (xe_fn lk_sc_44_bodies_in h.x_33 (by rw [h.hfa]; rfl) nd_bodies_in) xa_nil))))) (yg_nm (i := 3) J2.nd rfl (.inr lk_sc_44__law_call) (.inl rfl)) (yss_gc (ys_one (ys_expr J2.toXJ (xe_met J2.toXJ PySem.F.plainAttrs_list PySem.F.slot_list_append PySem.F.type_list_append mt_append ty_lst ok_append (xe_var (i := 2) rfl (.inl lk_sc_44__law_told) nd__law_told nc__law_told) (xa_cons J2.toXJ (xe_gc (xe_lam (k := 8) J2 (mt h _) (hr.mono (by decide)) lk_sc_44__law_met (h.tb _ (tmem (p := ("law", none)) (by decide))) hcv (by rw [h.hT]; exact tabT_mem (p := ("law", none)) (by decide)) (by rw [h.hT]; exact tabT_one h.hn (p := ("law", none)) (by decide)) (LamX.lamS_by (by kernel_rfl)) rfl (fun _ _ _ _ _ => rfl) (fun A outer s H E f c_ hr B2 => (xe_callV (i := 3) B2 (tab_ok h (by decide)) hr rfl (.inr (.inr (by kernel_rfl))) (xa_cons B2.toXJ (xe_bin B2.toXJ op_mulA (by rw [← B2.toXJ.K]; exact ok_mul) (xe_str (by kernel_rfl)) xe_int) xa_nil) nd__law_call nc__law_call)) nd__law_met)) xa_nil)))))) (ys_one (ys_ret J2.toXJ (xe_cmp J2.toXJ (op_eqA hr.units) (by rw [← J2.toXJ.K]; exact ok_eq) (xe_var (i := 2) rfl (.inl lk_sc_44__law_told) nd__law_told nc__law_told) (xe_bin J2.toXJ op_mulA (by rw [← J2.toXJ.K]; exact ok_mul) (xe_lst J2.toXJ (xa_cons J2.toXJ (xe_str (by kernel_rfl)) xa_nil)) xe_int) (nomark _))))))))
theorem bn_44 {K : PySem.W.Frag} {f : Addr} {fd : FuncData} (F : FunD K "law" "law" (defArgs (top 70)) (defBody (top 70)) (defScope (top 70)) [] [] f fd) : Binds K fd ["_law_script"] [] := F.bindsN fun _ _ _ _ _ _ us hl => match us, hl with | [_], _ => rfl
theorem c_44 {P : Program} {w : World} {mg : Str → Option Value} {base : Heap} {W : Wd} (h : Wk P w mg base W) : Cal P w mg base 13 "law" 1 W f_law := by
  obtain ⟨fd, F⟩ := h.def_ 44 _ rfl
  exact ⟨_, fd, ["_law_script"], rfl, fn_44 h F, h.x_44, F.kp, bn_44 F⟩
abbrev R : PySem.W.OpenRow := PySem.W.OpenLaw.row PySem.Challenge.rw_stillread_k15_errors_of_frames
def ex (K : PySem.W.Frag) : Bool := Mi.tabB K clsN clN tabM && (nodB K tf && (ownB K "InvalidNumber" "IndexError" "IndexError.__new__" "IndexError.__init__" [.type "IndexError", .type "LookupError", .type "Exception", .type "BaseException", .type "object"] "given" "given" fileM && (gtB K "PLACES" [(.int (1)), (.int (4)), (.int (9)), (.int (16)), (.int (25)), (.int (36)), (.int (49)), (.int (64)), (.int (81)), (.int (100)), (.int (121)), (.int (144)), (.int (169)), (.int (196)), (.int (225)), (.int (256)), (.int (289)), (.int (324)), (.int (361)), (.int (400)), (.int (441)), (.int (484)), (.int (529)), (.int (576)), (.int (625)), (.int (676)), (.int (729)), (.int (784)), (.int (841)), (.int (900)), (.int (961)), (.int (27)), (.int (92)), (.int (159)), (.int (228)), (.int (299)), (.int (372)), (.int (447)), (.int (524)), (.int (603))])))
abbrev hk : PySem.W.Hook := hookZ 6 fa fn ts tf ex
def ob (s : PySem.W.SharedT) : He.AlX := obsZ 6 fa fn ts tf ex (HandSHeadRun.getT s)
theorem ob_eq (s : PySem.W.SharedT) : ob s = hk.obs s.abs := obsZ_eq (HandSHeadRun.getT_eq s)
theorem run (w : World) : HandSHeadRun.RunEq R (PySem.W.view R.prog [70]) hk ob 4000 [("__name__" : PySem.Str), ("StillError" : PySem.Str), ("InvalidText" : PySem.Str), ("InvalidBody" : PySem.Str), ("InvalidOperation" : PySem.Str), ("InvalidNumber" : PySem.Str), ("PRIME" : PySem.Str), ("MAX_CELL" : PySem.Str), ("is_whole" : PySem.Str), ("is_within" : PySem.Str), ("require_within" : PySem.Str), ("is_cell" : PySem.Str), ("are_cells_in" : PySem.Str), ("back_of" : PySem.Str), ("trimmed" : PySem.Str), ("value_in" : PySem.Str), ("sum_in" : PySem.Str), ("scaled_in" : PySem.Str), ("product_in" : PySem.Str), ("none_in" : PySem.Str), ("through_in" : PySem.Str), ("is_ascending_within" : PySem.Str), ("MOST_SIGNS" : PySem.Str), ("WINDOW_SIGNS" : PySem.Str), ("DIGITS" : PySem.Str), ("FIGURES" : PySem.Str), ("BEGIN" : PySem.Str), ("END" : PySem.Str), ("LEAST_SIGN" : PySem.Str), ("GREATEST_SIGN" : PySem.Str), ("text_in" : PySem.Str), ("cells_told" : PySem.Str), ("window_at" : PySem.Str), ("windows_found" : PySem.Str), ("is_text" : PySem.Str), ("require_text" : PySem.Str), ("FRAME_CELLS" : PySem.Str), ("BODY_CELLS" : PySem.Str), ("MOST_ALIKE" : PySem.Str), ("PLACES" : PySem.Str), ("poly_of" : PySem.Str), ("cells_of" : PySem.Str), ("text_of" : PySem.Str), ("is_frame_of" : PySem.Str), ("found_in" : PySem.Str), ("agreeing_in" : PySem.Str), ("is_body_form" : PySem.Str), ("require_body_form" : PySem.Str), ("require_indices" : PySem.Str), ("require_body_and_indices" : PySem.Str), ("made_frame" : PySem.Str), ("frame_cells" : PySem.Str), ("told_frame" : PySem.Str), ("found_frames" : PySem.Str), ("bodies_in" : PySem.Str), ("agreeing" : PySem.Str), ("other_body" : PySem.Str), ("is_other_body" : PySem.Str), ("spliced" : PySem.Str), ("_law_churn" : PySem.Str), ("_law_ladle" : PySem.Str), ("_law_spoon" : PySem.Str), ("_law_met" : PySem.Str), ("_law_bodies_right" : PySem.Str), ("_law_texts_right" : PySem.Str)] w := by
  intro os
  kernel_rfl
theorem facts (PL : Plain f_law) {w : World} {K : PySem.W.Frag} {h : Heap} {mg : Str → Option Value} {f : Addr} (X : K.In h) (G : h.Ns mainGlobals mg) (c : He.SaysX fa fn ts tf ex w h K) (hf : mg ("law" : Str) = some (.ref f)) : LawG PySem.Challenge.rw_stillread_k15_errors_of_frames w K 13 63 "_law_script" mg f h := by
  have d := c.t.d
  have g : Gs mg := ⟨He.free_ok X G (d.fact 45 (f := .free "abs")), He.free_ok X G (d.fact 46 (f := .free "all")), He.free_ok X G (d.fact 47 (f := .free "bool")), He.free_ok X G (d.fact 48 (f := .free "enumerate")), He.free_ok X G (d.fact 49 (f := .free "int")), He.free_ok X G (d.fact 50 (f := .free "isinstance")), He.free_ok X G (d.fact 51 (f := .free "len")), He.free_ok X G (d.fact 52 (f := .free "max")), He.free_ok X G (d.fact 53 (f := .free "min")), He.free_ok X G (d.fact 54 (f := .free "range")), He.free_ok X G (d.fact 55 (f := .free "repr")), He.free_ok X G (d.fact 56 (f := .free "sorted")), He.free_ok X G (d.fact 57 (f := .free "str")), He.free_ok X G (d.fact 58 (f := .free "super")), He.free_ok X G (d.fact 59 (f := .free "tuple")), He.free_ok X G (d.fact 60 (f := .free "zip")), He.str_ok X G (d.fact 61), He.int_ok X G (d.fact 62), He.int_ok X G (d.fact 63), He.str_ok X G (d.fact 64), He.str_ok X G (d.fact 65), He.int_ok X G (d.fact 66), He.str_ok X G (d.fact 67), He.str_ok X G (d.fact 68), He.int_ok X G (d.fact 69), He.int_ok X G (d.fact 70), He.int_ok X G (d.fact 71), He.int_ok X G (d.fact 72), He.int_ok X G (d.fact 73)⟩
  have m := c.more
  unfold ex at m
  obtain ⟨e0, m⟩ := He.ba m
  obtain ⟨e1, m⟩ := He.ba m
  obtain ⟨e2, m⟩ := He.ba m
  have e3 := m
  have k : ∀ base, (∀ p ∈ tf.map (He.cT K), LamX.TabB base mg p.1 p.2) → Wk (PySem.Challenge.rw_stillread_k15_errors_of_frames).prog w mg base (W1 K (faT K fnsN) clsN tf) := fun base tb => ⟨g, fun i d0 hi => d.def_ i hi, He.glo_ok X G (d.fact 0 (f := .glo "is_whole")), He.glo_ok X G (d.fact 1 (f := .glo "is_within")), He.glo_ok X G (d.fact 2 (f := .glo "require_within")), He.glo_ok X G (d.fact 3 (f := .glo "is_cell")), He.glo_ok X G (d.fact 4 (f := .glo "are_cells_in")), He.glo_ok X G (d.fact 5 (f := .glo "back_of")), He.glo_ok X G (d.fact 6 (f := .glo "trimmed")), He.glo_ok X G (d.fact 7 (f := .glo "value_in")), He.glo_ok X G (d.fact 8 (f := .glo "sum_in")), He.glo_ok X G (d.fact 9 (f := .glo "scaled_in")), He.glo_ok X G (d.fact 10 (f := .glo "product_in")), He.glo_ok X G (d.fact 11 (f := .glo "none_in")), He.glo_ok X G (d.fact 12 (f := .glo "through_in")), He.glo_ok X G (d.fact 13 (f := .glo "is_ascending_within")), He.glo_ok X G (d.fact 14 (f := .glo "text_in")), He.glo_ok X G (d.fact 15 (f := .glo "cells_told")), He.glo_ok X G (d.fact 16 (f := .glo "window_at")), He.glo_ok X G (d.fact 17 (f := .glo "windows_found")), He.glo_ok X G (d.fact 18 (f := .glo "is_text")), He.glo_ok X G (d.fact 19 (f := .glo "require_text")), He.glo_ok X G (d.fact 20 (f := .glo "poly_of")), He.glo_ok X G (d.fact 21 (f := .glo "cells_of")), He.glo_ok X G (d.fact 22 (f := .glo "text_of")), He.glo_ok X G (d.fact 23 (f := .glo "is_frame_of")), He.glo_ok X G (d.fact 24 (f := .glo "found_in")), He.glo_ok X G (d.fact 25 (f := .glo "is_body_form")), He.glo_ok X G (d.fact 26 (f := .glo "require_body_form")), He.glo_ok X G (d.fact 27 (f := .glo "require_indices")), He.glo_ok X G (d.fact 28 (f := .glo "require_body_and_indices")), He.glo_ok X G (d.fact 29 (f := .glo "made_frame")), He.glo_ok X G (d.fact 30 (f := .glo "frame_cells")), He.glo_ok X G (d.fact 31 (f := .glo "told_frame")), He.glo_ok X G (d.fact 32 (f := .glo "found_frames")), He.glo_ok X G (d.fact 33 (f := .glo "bodies_in")), He.glo_ok X G (d.fact 34 (f := .glo "agreeing")), He.glo_ok X G (d.fact 35 (f := .glo "other_body")), He.glo_ok X G (d.fact 36 (f := .glo "is_other_body")), He.glo_ok X G (d.fact 37 (f := .glo "spliced")), He.glo_ok X G (d.fact 38 (f := .glo "_law_churn")), He.glo_ok X G (d.fact 39 (f := .glo "_law_ladle")), He.glo_ok X G (d.fact 40 (f := .glo "_law_spoon")), He.glo_ok X G (d.fact 41 (f := .glo "_law_met")), He.glo_ok X G (d.fact 42 (f := .glo "_law_bodies_right")), He.glo_ok X G (d.fact 43 (f := .glo "_law_texts_right")), He.glo_ok X G (d.fact 44 (f := .glo "law")), rfl, e1, rfl, rfl, tb, e0, by kernel_rfl, by kernel_rfl, He.glo_ok X G (d.fact 74 (f := .glo "InvalidText")), He.glo_ok X G (d.fact 75 (f := .glo "InvalidBody")), He.glo_ok X G (d.fact 76 (f := .glo "InvalidOperation")), He.glo_ok X G (d.fact 77 (f := .glo "InvalidNumber")), ownS_of (d.fact 78 (f := .exc "InvalidText")), ownS_of (d.fact 79 (f := .exc "InvalidBody")), ownS_of (d.fact 80 (f := .exc "InvalidOperation")), ownB_ok e2, gtB_ok X G e3⟩
  obtain ⟨fd, F⟩ := d.def_ 44 (d := dD 70 "law")
  have e := hf.symm.trans (He.glo_ok X G (d.fact 44 (f := .glo "law")))
  cases e
  exact lawG1 X c PL (fun s v => F.bindsA (ps := ["_law_script"]) (fun _ _ _ _ _ _ us hl => match us, hl with | [_], _ => rfl) s [v] rfl) fun base _ _ tb => fn_44 (k base tb) F

end K15
open PySem PySem.W PySem.Calls PyProof.Rows
theorem PySem.Challenge.cw_stillread_k15_errors_of_frames_holds : PySem.Challenge.rw_stillread_k15_errors_of_frames.Holds := by
  w_on; o_law
  refine HandSHeadRun.head_any (r := OpenLaw.row PySem.Challenge.rw_stillread_k15_errors_of_frames) (q := view (OpenLaw.row PySem.Challenge.rw_stillread_k15_errors_of_frames).prog [70]) (H := K15.hk) (ob := K15.ob) (M := 4000) (loose := [("__name__" : PySem.Str), ("StillError" : PySem.Str), ("InvalidText" : PySem.Str), ("InvalidBody" : PySem.Str), ("InvalidOperation" : PySem.Str), ("InvalidNumber" : PySem.Str), ("PRIME" : PySem.Str), ("MAX_CELL" : PySem.Str), ("is_whole" : PySem.Str), ("is_within" : PySem.Str), ("require_within" : PySem.Str), ("is_cell" : PySem.Str), ("are_cells_in" : PySem.Str), ("back_of" : PySem.Str), ("trimmed" : PySem.Str), ("value_in" : PySem.Str), ("sum_in" : PySem.Str), ("scaled_in" : PySem.Str), ("product_in" : PySem.Str), ("none_in" : PySem.Str), ("through_in" : PySem.Str), ("is_ascending_within" : PySem.Str), ("MOST_SIGNS" : PySem.Str), ("WINDOW_SIGNS" : PySem.Str), ("DIGITS" : PySem.Str), ("FIGURES" : PySem.Str), ("BEGIN" : PySem.Str), ("END" : PySem.Str), ("LEAST_SIGN" : PySem.Str), ("GREATEST_SIGN" : PySem.Str), ("text_in" : PySem.Str), ("cells_told" : PySem.Str), ("window_at" : PySem.Str), ("windows_found" : PySem.Str), ("is_text" : PySem.Str), ("require_text" : PySem.Str), ("FRAME_CELLS" : PySem.Str), ("BODY_CELLS" : PySem.Str), ("MOST_ALIKE" : PySem.Str), ("PLACES" : PySem.Str), ("poly_of" : PySem.Str), ("cells_of" : PySem.Str), ("text_of" : PySem.Str), ("is_frame_of" : PySem.Str), ("found_in" : PySem.Str), ("agreeing_in" : PySem.Str), ("is_body_form" : PySem.Str), ("require_body_form" : PySem.Str), ("require_indices" : PySem.Str), ("require_body_and_indices" : PySem.Str), ("made_frame" : PySem.Str), ("frame_cells" : PySem.Str), ("told_frame" : PySem.Str), ("found_frames" : PySem.Str), ("bodies_in" : PySem.Str), ("agreeing" : PySem.Str), ("other_body" : PySem.Str), ("is_other_body" : PySem.Str), ("spliced" : PySem.Str), ("_law_churn" : PySem.Str), ("_law_ladle" : PySem.Str), ("_law_spoon" : PySem.Str), ("_law_met" : PySem.Str), ("_law_bodies_right" : PySem.Str), ("_law_texts_right" : PySem.Str)]) (d := HandSHeadRun.topDef (OpenLaw.row PySem.Challenge.rw_stillread_k15_errors_of_frames).prog 70) (kwd := []) K15.ob_eq
    (by kernel_rfl) (fun s => by kernel_rfl) K15.run (by kernel_rfl) (by kernel_rfl) (by kernel_rfl) (by rfl) (by first | assumption | decide +kernel) (by decide +kernel) ⟨rfl, rfl, rfl, rfl, rfl, by decide +kernel⟩ ?hw ?hc
  case hw => w_witness2
  case hc =>
    refine Mi.walk_G (l := PySem.Challenge.rw_stillread_k15_errors_of_frames) (n := 63) (k := 13) (x := "_law_script") rfl (by decide) (by kernel_rfl) ⟨rfl, by decide, by decide⟩ ?F
    intro w mg fa h Y G hmg0
    obtain ⟨K, KX, c⟩ := Y
    have hmg : mg ("law" : PySem.Str) = some (.ref fa) := by
      have e : (HandSHeadRun.topDef (OpenLaw.row PySem.Challenge.rw_stillread_k15_errors_of_frames).prog 70).name = ("law" : PySem.Str) := by kernel_rfl
      rw [← e]
      exact hmg0
    exact ⟨K, KX, K15.facts K15.plain KX G c hmg⟩
end
