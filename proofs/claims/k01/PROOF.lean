import PyProof.Rows.All
import Wide.All
import OpenK.AllK
import Wide.FinOn
import KE.KStateDown
import Lean
import HandS.ForExc
import HandS.More
import HandS.Words
import HandS.WordsExc
import HandS.Defaults
import HandS.Wide
import HandS.Comp
import HandS.Iter
import HandS.Flow
import HandS.Style
import HandS.Head0
import HandS.Head1
import HandS.Head2
import HandS.HeadEnd
import HandS.HeadHook1
import HandS.HeadHook2
import PyProof.Rows.TupAdd
import HandS.TupMul
import HandS.IsInst
import HandS.Conv
import HandS.Text
import PyProof.ReprRoads
import HandS.TupAny
import HandS.Deep
import HandS.SortKw
import KE.DatumOrd
import KE.GoesMore
import HandS.ExcInit
import HandS.ExcIs
import HandS.ExcField
import HandS.CallSlots
import KE.KExcIs
import KE.GoesEnum
import PySem.Challenge.RW_leastjournal_k01_primes_of_any_value
set_option Elab.async false
set_option linter.all false
set_option maxRecDepth 100000
set_option maxHeartbeats 4000000
/-! ## values as trees, a store of mutable objects by number, results -/
namespace Lf
open PySem PySem.Spec L2

/-- a value: tuples are trees; ob i: the i-th mutable object of the store; scr: the script -/
inductive U where
  | non | bl (b : Bool) | int (i : Int) | str (x : Str) | tup (xs : List U) | ob (i : Nat) | scr (ns : List Int) | raw (v : V)
/-- an exception: its class's name, its fields -/
structure Ex where
  cls : Str
  fs : List (Str × U)
inductive O where
  | lst (xs : List U)
  | dic (kvs : List (U × U))
  | ins (C : Str) (fs : List (Str × U))
  | exc (C : Str) (fs : List (Str × U))
abbrev Sto := List O
inductive R (α : Type) where
  | no
  | ok (a : α) (T : Sto)
  | ex (e : Ex) (T : Sto)
abbrev M (α : Type) := Sto → R α
def R.bind {α β : Type} : R α → (α → M β) → R β
  | .no, _ => .no
  | .ok a T, k => k a T
  | .ex e T, _ => .ex e T
@[simp] theorem R.bind_no {α β : Type} (k : α → M β) : R.bind (.no : R α) k = .no := rfl
@[simp] theorem R.bind_ok {α β : Type} (a : α) (T : Sto) (k : α → M β) : R.bind (.ok a T) k = k a T := rfl
@[simp] theorem R.bind_ex {α β : Type} (e : Ex) (T : Sto) (k : α → M β) : R.bind (.ex e T : R α) k = .ex e T := rfl
/-- the locals by slot -/
abbrev Lo := List (Option U)

/-! ## how they lie in the abstract heap -/
/-- a list that nobody writes: known whole, or a constant of the module -/
def RF (K : PySem.W.Frag) (H : Hp) (a : Addr) (xs : List V) : Prop :=
  (∃ o, H a = some (.frz o (.lst xs))) ∨
    ∃ (o : Obj) (its : Array Value) (n : Nat), K.lookup a = some o ∧ o.cls = .type "list" ∧ o.dict = none ∧ o.data = .seq its n ∧ its.size ≤ sizeLine ∧ Vals xs its.toList
theorem RF.sq {K : PySem.W.Frag} {H : Hp} {a : Addr} {xs : List V} (h : RF K H a xs) : SqL K H a xs := by
  rcases h with ⟨o, h⟩ | h
  · exact .inl (.inr ⟨o, h⟩)
  · exact .inr h
mutual
inductive RV (K : PySem.W.Frag) (ρ : List Addr) (H : Hp) : U → V → Prop
  | non : RV K ρ H .non .non
  | bl (b : Bool) : RV K ρ H (.bl b) (.bl b)
  | int (i : Int) : RV K ρ H (.int i) (.int i)
  | str (x : Str) : RV K ρ H (.str x) (.str x)
  | tup {a : Addr} {vs : List V} {us : List U} : SqT K H a vs → RVs K ρ H us vs → RV K ρ H (.tup us) (.ref a)
  | ob {i : Nat} {a : Addr} : ρ[i]? = some a → RV K ρ H (.ob i) (.ref a)
  | scr {a : Addr} {ns : List Int} : RF K H a (ns.map V.int) → RV K ρ H (.scr ns) (.ref a)
  | raw (v : V) : RV K ρ H (.raw v) v
inductive RVs (K : PySem.W.Frag) (ρ : List Addr) (H : Hp) : List U → List V → Prop
  | nil : RVs K ρ H [] []
  | cons {u : U} {v : V} {us : List U} {vs : List V} : RV K ρ H u v → RVs K ρ H us vs → RVs K ρ H (u :: us) (v :: vs)
end
section
variable {K : PySem.W.Frag} {ρ ρ' : List Addr} {H H' : Hp}
mutual
theorem RV.mono (h1 : ∀ (i : Nat) (a : Addr), ρ[i]? = some a → ρ'[i]? = some a) (h2 : ∀ a vs, SqT K H a vs → SqT K H' a vs) (h3 : ∀ a vs, RF K H a vs → RF K H' a vs) : ∀ {u : U} {v : V}, RV K ρ H u v → RV K ρ' H' u v
  | _, _, .non => .non
  | _, _, .bl b => .bl b
  | _, _, .int i => .int i
  | _, _, .str x => .str x
  | _, _, .tup a r => .tup (h2 _ _ a) (RVs.mono h1 h2 h3 r)
  | _, _, .ob e => .ob (h1 _ _ e)
  | _, _, .scr e => .scr (h3 _ _ e)
  | _, _, .raw v => .raw v
theorem RVs.mono (h1 : ∀ (i : Nat) (a : Addr), ρ[i]? = some a → ρ'[i]? = some a) (h2 : ∀ a vs, SqT K H a vs → SqT K H' a vs) (h3 : ∀ a vs, RF K H a vs → RF K H' a vs) : ∀ {us : List U} {vs : List V}, RVs K ρ H us vs → RVs K ρ' H' us vs
  | _, _, .nil => .nil
  | _, _, .cons r s => .cons (RV.mono h1 h2 h3 r) (RVs.mono h1 h2 h3 s)
end
theorem RVs.length : ∀ {us : List U} {vs : List V}, RVs K ρ H us vs → us.length = vs.length
  | _, _, .nil => rfl
  | _, _, .cons _ r => congrArg Nat.succ (RVs.length r)
theorem RVs.get : ∀ {us : List U} {vs : List V} {i : Nat} {u : U}, RVs K ρ H us vs → us[i]? = some u → ∃ v, vs[i]? = some v ∧ RV K ρ H u v
  | _, _, _, _, .nil, e => by simp at e
  | _, _, 0, u, .cons r _, e => by
    simp only [List.getElem?_cons_zero, Option.some.injEq] at e
    subst e
    exact ⟨_, rfl, r⟩
  | _, _, i + 1, u, .cons _ t, e => by
    obtain ⟨v, h1, h2⟩ := RVs.get (i := i) (u := u) t (by simpa using e)
    exact ⟨v, by simpa using h1, h2⟩
theorem RVs.set {u : U} {v : V} (r : RV K ρ H u v) : ∀ {us : List U} {vs : List V} (i : Nat), RVs K ρ H us vs → RVs K ρ H (us.set i u) (vs.set i v)
  | _, _, _, .nil => .nil
  | _, _, 0, .cons _ t => .cons r t
  | _, _, i + 1, .cons q t => .cons q (RVs.set r i t)
theorem RVs.append : ∀ {us ws : List U} {vs xs : List V}, RVs K ρ H us vs → RVs K ρ H ws xs → RVs K ρ H (us ++ ws) (vs ++ xs)
  | _, _, _, _, .nil, s => s
  | _, _, _, _, .cons r t, s => .cons r (RVs.append t s)
theorem RVs.take : ∀ {us : List U} {vs : List V} (n : Nat), RVs K ρ H us vs → RVs K ρ H (us.take n) (vs.take n)
  | _, _, 0, _ => .nil
  | _, _, _ + 1, .nil => .nil
  | _, _, n + 1, .cons r t => .cons r (RVs.take n t)
theorem RVs.drop : ∀ {us : List U} {vs : List V} (n : Nat), RVs K ρ H us vs → RVs K ρ H (us.drop n) (vs.drop n)
  | _, _, 0, r => r
  | _, _, _ + 1, .nil => .nil
  | _, _, n + 1, .cons _ t => RVs.drop n t
theorem RVs.reverse : ∀ {us : List U} {vs : List V}, RVs K ρ H us vs → RVs K ρ H us.reverse vs.reverse
  | _, _, .nil => .nil
  | _, _, .cons r t => by
    rw [List.reverse_cons, List.reverse_cons]
    exact RVs.append (RVs.reverse t) (.cons r .nil)
theorem RVs.ints : ∀ ns : List Int, RVs K ρ H (ns.map U.int) (ns.map V.int)
  | [] => .nil
  | n :: ns => .cons (.int n) (RVs.ints ns)
theorem RVs.none_of {us : List U} {vs : List V} {i : Nat} (r : RVs K ρ H us vs) (e : us[i]? = none) : vs[i]? = none := by
  have h1 := r.length
  have h2 := List.getElem?_eq_none_iff.mp e
  exact List.getElem?_eq_none_iff.mpr (by omega)
end

/-- a key of a dict -/
def kU : Key → U
  | .inl i => .int i
  | .inr x => .str x
/-- a caught exception at a, its dict at d -/
def ExK (a C d : Addr) : HO := .ext fun h => ∃ (oe : Obj) (vs : Array Value), h.get? a = some oe ∧ Zc (.ref C) (some d) oe ∧ oe.data = .fields vs
/-- an object of the store at an address -/
def RO (K : PySem.W.Frag) (ρ : List Addr) (H : Hp) : O → Addr → Prop
  | .lst xs, a => ∃ vs, H a = some (.lst vs) ∧ RVs K ρ H xs vs
  | .dic kvs, a => (∃ ks, H a = some (.dK ks) ∧ Paired (fun (p : U × U) (q : Key × V) => p.1 = kU q.1 ∧ RV K ρ H p.2 q.2) kvs ks) ∨
      ∃ ks, H a = some (.dT ks) ∧ Paired (fun (p : U × U) (q : List Key × V) => p.1 = .tup (q.1.map kU) ∧ RV K ρ H p.2 q.2) kvs ks
  | .ins C fs, a => ∃ dx gs, H a = some (.ins (He.ga K C) dx gs) ∧ Paired (fun (p : Str × U) (q : Str × V) => p.1 = q.1 ∧ RV K ρ H p.2 q.2) fs gs
  | .exc C fs, a => ∃ d gs, H a = some (ExK a (He.ga K C) d) ∧ H d = some (.xd gs) ∧ Paired (fun (p : Str × U) (q : Str × V) => p.1 = q.1 ∧ RV K ρ H p.2 q.2) fs gs
/-- what may stand at an object's address -/
def Live : HO → Prop
  | .lst _ => True
  | .dK _ => True
  | .dT _ => True
  | .ins _ _ _ => True
  | .ext _ => True
  | _ => False
theorem RO.live {K : PySem.W.Frag} {ρ : List Addr} {H : Hp} {o : O} {a : Addr} (h : RO K ρ H o a) : ∃ x, H a = some x ∧ Live x := by
  cases o with
  | lst xs => obtain ⟨vs, e, _⟩ := h; exact ⟨_, e, trivial⟩
  | dic kvs =>
    rcases h with ⟨ks, e, _⟩ | ⟨ks, e, _⟩
    · exact ⟨_, e, trivial⟩
    · exact ⟨_, e, trivial⟩
  | ins C fs => obtain ⟨dx, gs, e, _⟩ := h; exact ⟨_, e, trivial⟩
  | exc C fs => obtain ⟨d, gs, e, _⟩ := h; exact ⟨_, e, trivial⟩
structure RS (K : PySem.W.Frag) (ρ : List Addr) (H : Hp) (T : Sto) : Prop where
  len : ρ.length = T.length
  nd : ρ.Nodup
  at_ : ∀ (i : Nat) (o : O) (a : Addr), T[i]? = some o → ρ[i]? = some a → RO K ρ H o a
structure RE (K : PySem.W.Frag) (ρ : List Addr) (H : Hp) (η : Lo) (σ : St) : Prop where
  len : η.length = σ.length
  at_ : ∀ (i : Nat) (u : U), η[i]? = some (some u) → ∃ v, σ[i]? = some (some v) ∧ RV K ρ H u v
/-- the abstract heap grows: what is no object of the store stays -/
structure Gr (K : PySem.W.Frag) (ρ : List Addr) (H : Hp) (ρ' : List Addr) (H' : Hp) : Prop where
  pre : ∀ (i : Nat) (a : Addr), ρ[i]? = some a → ρ'[i]? = some a
  sq : ∀ a vs, SqT K H a vs → SqT K H' a vs
  rf : ∀ a vs, RF K H a vs → RF K H' a vs
  kp : ∀ a o, a ∉ ρ → H a = some o → H' a = some o
  nw : ∀ a ∈ ρ', a ∉ ρ → H a = none
  xd : ∀ a gs, H a = some (.xd gs) → H' a = some (.xd gs)
section
variable {K : PySem.W.Frag} {ρ ρ' ρ1 ρ2 : List Addr} {H H' H1 H2 : Hp} {T : Sto}
theorem Gr.refl : Gr K ρ H ρ H := ⟨fun _ _ e => e, fun _ _ e => e, fun _ _ e => e, fun _ _ _ e => e, fun _ h n => absurd h n, fun _ _ e => e⟩
theorem Gr.trans (g : Gr K ρ H ρ1 H1) (k : Gr K ρ1 H1 ρ2 H2) : Gr K ρ H ρ2 H2 where
  pre := fun i a e => k.pre i a (g.pre i a e)
  sq := fun a vs e => k.sq a vs (g.sq a vs e)
  rf := fun a vs e => k.rf a vs (g.rf a vs e)
  kp := fun a o n e => k.kp a o (fun h => by
    have := g.nw a h n
    rw [e] at this
    cases this) (g.kp a o n e)
  nw := fun a h n => by
    by_cases m : a ∈ ρ1
    · exact g.nw a m n
    · have e := k.nw a h m
      cases q : H a with
      | none => rfl
      | some o =>
        rw [g.kp a o n q] at e
        cases e
  xd := fun a gs e => k.xd a gs (g.xd a gs e)
theorem RV.gr {u : U} {v : V} (r : RV K ρ H u v) (g : Gr K ρ H ρ' H') : RV K ρ' H' u v := r.mono g.pre g.sq g.rf
theorem RVs.gr {us : List U} {vs : List V} (r : RVs K ρ H us vs) (g : Gr K ρ H ρ' H') : RVs K ρ' H' us vs := r.mono g.pre g.sq g.rf
theorem RE.gr {η : Lo} {σ : St} (r : RE K ρ H η σ) (g : Gr K ρ H ρ' H') : RE K ρ' H' η σ :=
  ⟨r.len, fun i u e => let ⟨v, h1, h2⟩ := r.at_ i u e; ⟨v, h1, h2.gr g⟩⟩
theorem RE.set {η : Lo} {σ : St} {u : U} {v : V} (r : RE K ρ H η σ) (i : Nat) (h : RV K ρ H u v) : RE K ρ H (η.set i (some u)) (σ.set i (some v)) := by
  refine ⟨by rw [List.length_set, List.length_set]; exact r.len, fun j w e => ?_⟩
  by_cases hj : i = j
  · subst hj
    rw [List.getElem?_set] at e
    simp only [if_pos] at e
    split at e
    · rename_i hl
      cases e
      exact ⟨v, by rw [List.getElem?_set_self (by rw [← r.len]; exact hl)], h⟩
    · cases e
  · rw [List.getElem?_set_ne hj] at e
    obtain ⟨x, h1, h2⟩ := r.at_ j w e
    exact ⟨x, by rw [List.getElem?_set_ne hj]; exact h1, h2⟩
theorem RO.gr {o : O} {a : Addr} (h : RO K ρ H o a) (g : Gr K ρ H ρ' H') (e : H' a = H a) : RO K ρ' H' o a := by
  cases o with
  | lst xs => obtain ⟨vs, e1, r⟩ := h; exact ⟨vs, e.trans e1, r.gr g⟩
  | dic kvs =>
    rcases h with ⟨ks, e1, r⟩ | ⟨ks, e1, r⟩
    · exact .inl ⟨ks, e.trans e1, Paired.mapP r fun _ _ z => ⟨z.1, z.2.gr g⟩⟩
    · exact .inr ⟨ks, e.trans e1, Paired.mapP r fun _ _ z => ⟨z.1, z.2.gr g⟩⟩
  | ins C fs => obtain ⟨dx, gs, e1, r⟩ := h; exact ⟨dx, gs, e.trans e1, Paired.mapP r fun _ _ z => ⟨z.1, z.2.gr g⟩⟩
  | exc C fs => obtain ⟨d, gs, e1, e2, r⟩ := h; exact ⟨d, gs, e.trans e1, g.xd d gs e2, Paired.mapP r fun _ _ z => ⟨z.1, z.2.gr g⟩⟩
theorem RS.get (s : RS K ρ H T) {i : Nat} {o : O} (e : T[i]? = some o) : ∃ a, ρ[i]? = some a ∧ RO K ρ H o a := by
  have hi : i < ρ.length := by rw [s.len]; exact (List.getElem?_eq_some_iff.mp e).1
  exact ⟨ρ[i], by simp [hi], s.at_ i o _ e (by simp [hi])⟩
theorem RS.has (s : RS K ρ H T) {a : Addr} (h : a ∈ ρ) : ∃ (i : Nat) (o : O), T[i]? = some o ∧ ρ[i]? = some a ∧ RO K ρ H o a := by
  obtain ⟨i, hi, e⟩ := List.mem_iff_getElem.mp h
  have hi' : i < T.length := by rw [← s.len]; exact hi
  exact ⟨i, T[i], by simp [hi'], by simp [hi, e], s.at_ i _ _ (by simp [hi']) (by simp [hi, e])⟩
theorem RS.live (s : RS K ρ H T) {a : Addr} (h : a ∈ ρ) : ∃ x, H a = some x ∧ Live x := by
  obtain ⟨_, _, _, _, r⟩ := s.has h
  exact r.live
/-- a live place is changed to a live one, or a free one filled: tuples and the script stay -/
theorem sq_upd {a b : Addr} {x : HO} {vs : List V} (h : H b = none ∨ ∃ y, H b = some y ∧ Live y) (q : SqT K H a vs) : SqT K (upd H b x) a vs := by
  rcases q with (q | ⟨o, q⟩) | q
  · refine .inl (.inl ?_)
    rw [upd_ne ?_]
    · exact q
    · rintro rfl
      rcases h with h | ⟨y, h, l⟩
      · rw [h] at q; cases q
      · rw [h] at q; cases q; exact l
  · refine .inl (.inr ⟨o, ?_⟩)
    rw [upd_ne ?_]
    · exact q
    · rintro rfl
      rcases h with h | ⟨y, h, l⟩
      · rw [h] at q; cases q
      · rw [h] at q; cases q; exact l
  · exact .inr q
theorem rf_upd {a b : Addr} {x : HO} {vs : List V} (h : H b = none ∨ ∃ y, H b = some y ∧ Live y) (q : RF K H a vs) : RF K (upd H b x) a vs := by
  rcases q with ⟨o, q⟩ | q
  · refine .inl ⟨o, ?_⟩
    rw [upd_ne ?_]
    · exact q
    · rintro rfl
      rcases h with h | ⟨y, h, l⟩
      · rw [h] at q; cases q
      · rw [h] at q; cases q; exact l
  · exact .inr q
theorem xd_upd {a b : Addr} {x : HO} {gs : List (Str × V)} (h : H b = none ∨ ∃ y, H b = some y ∧ Live y) (q : H a = some (.xd gs)) : upd H b x a = some (.xd gs) := by
  rw [upd_ne ?_]
  · exact q
  · rintro rfl
    rcases h with h | ⟨y, h, l⟩
    · rw [h] at q; cases q
    · rw [h] at q; cases q; exact l
/-- a place that is no object of the store is filled -/
theorem Gr.fill {p : Addr} {x : HO} (n : H p = none) : Gr K ρ H ρ (upd H p x) :=
  ⟨fun _ _ e => e, fun _ _ q => sq_upd (.inl n) q, fun _ _ q => rf_upd (.inl n) q, fun a o _ e => by rw [upd_ne (ne_of_none e n)]; exact e, fun _ h k => absurd h k, fun _ _ q => xd_upd (.inl n) q⟩
theorem Gr.new {p : Addr} {x : HO} (n : H p = none) : Gr K ρ H (ρ ++ [p]) (upd H p x) :=
  ⟨fun i a e => by rw [List.getElem?_append_left (List.getElem?_eq_some_iff.mp e).1]; exact e, fun _ _ q => sq_upd (.inl n) q, fun _ _ q => rf_upd (.inl n) q, fun a o _ e => by rw [upd_ne (ne_of_none e n)]; exact e, fun a h k => by
    rcases List.mem_append.mp h with h | h
    · exact absurd h k
    · rw [List.mem_singleton.mp h]; exact n, fun _ _ q => xd_upd (.inl n) q⟩
theorem Gr.put {i : Nat} {a : Addr} {x : HO} (s : RS K ρ H T) (e : ρ[i]? = some a) : Gr K ρ H ρ (upd H a x) := by
  have hm : a ∈ ρ := List.mem_of_getElem? e
  have l := s.live hm
  refine ⟨fun _ _ e => e, fun _ _ q => sq_upd (.inr l) q, fun _ _ q => rf_upd (.inr l) q, fun b o n q => ?_, fun _ h k => absurd h k, fun _ _ q => xd_upd (.inr l) q⟩
  rw [upd_ne (fun z => n (by rw [z]; exact hm))]
  exact q
theorem RS.fill (s : RS K ρ H T) {p : Addr} {x : HO} (n : H p = none) : RS K ρ (upd H p x) T := by
  refine ⟨s.len, s.nd, fun i o a e1 e2 => ?_⟩
  obtain ⟨y, hy, _⟩ := s.live (List.mem_of_getElem? e2)
  exact (s.at_ i o a e1 e2).gr (Gr.fill n) (by rw [upd_ne (ne_of_none hy n)])
theorem RS.new (s : RS K ρ H T) {p : Addr} {x : HO} {o : O} (n : H p = none) (r : RO K (ρ ++ [p]) (upd H p x) o p) : RS K (ρ ++ [p]) (upd H p x) (T ++ [o]) := by
  have np : p ∉ ρ := fun h => by
    obtain ⟨y, hy, _⟩ := s.live h
    rw [n] at hy
    cases hy
  refine ⟨by rw [List.length_append, List.length_append, s.len]; rfl, ?_, fun i u a e1 e2 => ?_⟩
  · rw [List.nodup_append]
    exact ⟨s.nd, by simp, fun a ha b hb => by rw [List.mem_singleton.mp hb]; rintro rfl; exact np ha⟩
  · by_cases hi : i < ρ.length
    · rw [List.getElem?_append_left hi] at e2
      rw [List.getElem?_append_left (by rw [← s.len]; exact hi)] at e1
      obtain ⟨y, hy, _⟩ := s.live (List.mem_of_getElem? e2)
      exact (s.at_ i u a e1 e2).gr (Gr.new n) (by rw [upd_ne (ne_of_none hy n)])
    · have hl : i = ρ.length := by
        have := (List.getElem?_eq_some_iff.mp e2).1
        rw [List.length_append, List.length_singleton] at this
        omega
      subst hl
      rw [List.getElem?_append_right (Nat.le_refl _), Nat.sub_self] at e2
      rw [s.len, List.getElem?_append_right (Nat.le_refl _), Nat.sub_self] at e1
      cases e1
      cases e2
      exact r
theorem RS.put (s : RS K ρ H T) {i : Nat} {a : Addr} {x : HO} {o : O} (e : ρ[i]? = some a) (r : RO K ρ (upd H a x) o a) : RS K ρ (upd H a x) (T.set i o) := by
  refine ⟨by rw [List.length_set]; exact s.len, s.nd, fun j u b e1 e2 => ?_⟩
  have hi := (List.getElem?_eq_some_iff.mp e).1
  by_cases hj : i = j
  · subst hj
    rw [List.getElem?_set_self (by rw [← s.len]; exact hi)] at e1
    cases e1
    rw [e] at e2
    cases e2
    exact r
  · rw [List.getElem?_set_ne hj] at e1
    refine (s.at_ j u b e1 e2).gr (Gr.put s e) ?_
    rw [upd_ne]
    rintro rfl
    have hjl := (List.getElem?_eq_some_iff.mp e2).1
    exact hj ((List.getElem_inj s.nd).mp ((List.getElem?_eq_some_iff.mp e).2.trans (List.getElem?_eq_some_iff.mp e2).2.symm))
end

/-! ## what a result says of the abstract heap -/
abbrev Rel (α β : Type) := List Addr → Hp → α → β → Prop
/-- the wish E about exceptions is met by e -/
def XR (K : PySem.W.Frag) (ρ : List Addr) (H : Hp) (E : XK) (e : Ex) (T : Sto) : Prop :=
  ∀ (ρ' : List Addr) (H' : Hp) (d : Addr) (gs : List (Str × V)), Gr K ρ H ρ' H' → RS K ρ' H' T → H' d = some (.xd gs) → Paired (fun (p : Str × U) (q : Str × V) => p.1 = q.1 ∧ RV K ρ' H' p.2 q.2) e.fs gs →
    E (.ref (He.ga K e.cls)) (some d) H'
def OK {α β : Type} (K : PySem.W.Frag) (ρ : List Addr) (H : Hp) (E : XK) (rel : Rel α β) (r : R α) (Q : β → Hp → Prop) : Prop :=
  match r with
  | .no => False
  | .ok a T => ∀ (ρ' : List Addr) (H' : Hp) (b : β), Gr K ρ H ρ' H' → RS K ρ' H' T → rel ρ' H' a b → Q b H'
  | .ex e T => XR K ρ H E e T
section
variable {K : PySem.W.Frag} {ρ ρ' : List Addr} {H H' : Hp} {T : Sto} {E : XK} {α β γ δ : Type} {rel : Rel α β} {rel2 : Rel γ δ}
theorem XR.gr {e : Ex} (h : XR K ρ H E e T) (g : Gr K ρ H ρ' H') : XR K ρ' H' E e T := fun ρ2 H2 d gs g2 s q r => h ρ2 H2 d gs (g.trans g2) s q r
theorem OK.gr {r : R α} {Q : β → Hp → Prop} (h : OK K ρ H E rel r Q) (g : Gr K ρ H ρ' H') : OK K ρ' H' E rel r Q := by
  cases r with
  | no => exact h
  | ok a T => exact fun ρ2 H2 b g2 s q => h ρ2 H2 b (g.trans g2) s q
  | ex e T => exact XR.gr h g
theorem OK.bind {r : R α} {k : α → M γ} {Q : δ → Hp → Prop} (h : OK K ρ H E rel2 (r.bind k) Q) :
    OK K ρ H E rel r (fun b H1 => ∃ (ρ1 : List Addr) (T1 : Sto) (a : α), Gr K ρ H ρ1 H1 ∧ RS K ρ1 H1 T1 ∧ rel ρ1 H1 a b ∧ OK K ρ1 H1 E rel2 (k a T1) Q) := by
  cases r with
  | no => exact h
  | ok a T => exact fun ρ1 H1 b g s q => ⟨ρ1, T, a, g, s, q, OK.gr h g⟩
  | ex e T => exact h
theorem OK.mono {r : R α} {Q Q' : β → Hp → Prop} (h : OK K ρ H E rel r Q) (i : ∀ b H, Q b H → Q' b H) : OK K ρ H E rel r Q' := by
  cases r with
  | no => exact h
  | ok a T => exact fun ρ1 H1 b g s q => i _ _ (h ρ1 H1 b g s q)
  | ex e T => exact h
end
abbrev rV (K : PySem.W.Frag) : Rel U V := fun ρ H u v => RV K ρ H u v
abbrev rVs (K : PySem.W.Frag) : Rel (List U) (List V) := fun ρ H us vs => RVs K ρ H us vs
abbrev rB : Rel Bool Bool := fun _ _ a b => a = b
end Lf


set_option Elab.async false
set_option linter.all false
set_option maxRecDepth 100000
set_option maxHeartbeats 4000000
/-! ## judgements: a piece of syntax and what it computes -/
namespace Lf
open PySem PySem.Spec L2

abbrev FxE := Lo → M U
abbrev FxT := Lo → M Bool
abbrev FxA := Lo → M (List U)
structure FE (X : Cx) (E : XK) (e : Expr) (F : FxE) : Prop where
  ex : ∃ t : TE, PE X e t ∧ ∀ (σ : L2.St) (H : Hp) (ρ : List Addr) (T : Sto) (η : Lo) (Q : V → Hp → Prop), RS X.K ρ H T → RE X.K ρ H η σ → OK X.K ρ H E (rV X.K) (F η T) Q → t σ H Q
structure FT (X : Cx) (E : XK) (e : Expr) (F : FxT) : Prop where
  ex : ∃ t : TT, PT X e t ∧ ∀ (σ : L2.St) (H : Hp) (ρ : List Addr) (T : Sto) (η : Lo) (Q : Bool → Hp → Prop), RS X.K ρ H T → RE X.K ρ H η σ → OK X.K ρ H E rB (F η T) Q → t σ H Q
structure FW (X : Cx) (E : XK) (e : Expr) (F : FxT) : Prop where
  ex : ∃ t : TT, PW X e t ∧ ∀ (σ : L2.St) (H : Hp) (ρ : List Addr) (T : Sto) (η : Lo) (Q : Bool → Hp → Prop), RS X.K ρ H T → RE X.K ρ H η σ → OK X.K ρ H E rB (F η T) Q → t σ H Q
structure FA (X : Cx) (E : XK) (es : List Expr) (F : FxA) : Prop where
  ex : ∃ t : TA, PA X es t ∧ ∀ (σ : L2.St) (H : Hp) (ρ : List Addr) (T : Sto) (η : Lo) (Q : List V → Hp → Prop), RS X.K ρ H T → RE X.K ρ H η σ → OK X.K ρ H E (rVs X.K) (F η T) Q → t σ H Q

/-! ### the combinators -/
def fVar (i : Nat) : FxE := fun η T => match η[i]? with
  | some (some u) => .ok u T
  | _ => .no
def fC (u : U) : FxE := fun _ T => .ok u T
def fBin (g : U → U → M U) (Fa Fb : FxE) : FxE := fun η T => (Fa η T).bind fun u T1 => (Fb η T1).bind fun v T2 => g u v T2
def fUn (g : U → M U) (Fa : FxE) : FxE := fun η T => (Fa η T).bind fun u T1 => g u T1
def fNil : FxA := fun _ T => .ok [] T
def fCons (Fa : FxE) (Fr : FxA) : FxA := fun η T => (Fa η T).bind fun u T1 => (Fr η T1).bind fun us T2 => .ok (u :: us) T2
def fCall (g : List U → M U) (Fa : FxA) : FxE := fun η T => (Fa η T).bind fun us T1 => g us T1
def fTup (Fa : FxA) : FxE := fun η T => (Fa η T).bind fun us T1 => if us.length ≤ 16777216 then .ok (.tup us) T1 else .no
/-- a new object -/
def nw (o : O) : M U := fun T => .ok (.ob T.length) (T ++ [o])
def fLst (Fa : FxA) : FxE := fun η T => (Fa η T).bind fun us T1 => if us.length ≤ 16777216 then nw (.lst us) T1 else .no
def fIfE (Fc : FxT) (Fa Fb : FxE) : FxE := fun η T => (Fc η T).bind fun b T1 => if b = true then Fa η T1 else Fb η T1
def tru (T : Sto) : U → Option Bool
  | .non => some false
  | .bl b => some b
  | .int i => some (i != 0)
  | .str y => if y.length ≤ 16777216 then some ((y.length : Int) != 0) else none
  | .tup xs => some (!xs.isEmpty)
  | .scr ns => some (!ns.isEmpty)
  | .ob i => match T[i]? with
    | some (.lst xs) => some (!xs.isEmpty)
    | _ => none
  | .raw _ => none
def fTru (Fa : FxE) : FxT := fun η T => (Fa η T).bind fun u T1 => match tru T1 u with
  | some b => .ok b T1
  | none => .no
def fBl (Fa : FxE) : FxT := fun η T => (Fa η T).bind fun u T1 => match u with
  | .bl b => .ok b T1
  | _ => .no
def fAnd (Fa Fb : FxT) : FxT := fun η T => (Fa η T).bind fun b T1 => if b = true then Fb η T1 else .ok false T1
def fOr (Fa Fb : FxT) : FxT := fun η T => (Fa η T).bind fun b T1 => if b = true then .ok true T1 else Fb η T1
def fNot (Fa : FxT) : FxT := fun η T => (Fa η T).bind fun b T1 => .ok (!b) T1
def fAndV (Fa Fb : FxE) : FxE := fun η T => (Fa η T).bind fun u T1 => match u with
  | .bl true => Fb η T1
  | .bl false => .ok (.bl false) T1
  | _ => .no
def fOrV (Fa Fb : FxE) : FxE := fun η T => (Fa η T).bind fun u T1 => match u with
  | .bl true => .ok (.bl true) T1
  | .bl false => Fb η T1
  | _ => .no
def fNotV (Fa : FxE) : FxE := fun η T => (Fa η T).bind fun u T1 => match tru T1 u with
  | some b => .ok (.bl (!b)) T1
  | none => .no
def fChain (g h : U → U → M U) (Fa Fb Fc : FxE) : FxE := fun η T => (Fa η T).bind fun u T1 => (Fb η T1).bind fun v T2 => (g u v T2).bind fun z T3 => match z with
  | .bl true => (Fc η T3).bind fun x T4 => h v x T4
  | .bl false => .ok (.bl false) T3
  | _ => .no

section
variable {X : Cx} {E : XK} {ρ : List Addr} {H : Hp} {T : Sto}
/-- a result that changes nothing -/
theorem okV {u : U} {v : V} {Q : V → Hp → Prop} (s : RS X.K ρ H T) (h : OK X.K ρ H E (rV X.K) (.ok u T) Q) (r : RV X.K ρ H u v) : Q v H := h ρ H v Gr.refl s r
theorem okB {b : Bool} {Q : Bool → Hp → Prop} (s : RS X.K ρ H T) (h : OK X.K ρ H E rB (.ok b T) Q) : Q b H := h ρ H b Gr.refl s rfl
theorem okNew {us : List U} {vs : List V} {Q : V → Hp → Prop} (s : RS X.K ρ H T) (h : OK X.K ρ H E (rV X.K) (nw (.lst us) T) Q) (r : RVs X.K ρ H us vs) {p : Addr} (n : H p = none) : Q (.ref p) (upd H p (.lst vs)) :=
  h (ρ ++ [p]) _ (.ref p) (Gr.new n) (s.new n ⟨vs, upd_same, r.gr (Gr.new n)⟩) (.ob (by rw [← s.len, List.getElem?_append_right (Nat.le_refl _), Nat.sub_self]; rfl))
theorem okTup {us : List U} {vs : List V} {Q : V → Hp → Prop} (s : RS X.K ρ H T) (h : OK X.K ρ H E (rV X.K) (.ok (.tup us) T) Q) (r : RVs X.K ρ H us vs) {p : Addr} (n : H p = none) : Q (.ref p) (upd H p (.tup vs)) :=
  h ρ _ (.ref p) (Gr.fill n) (s.fill n) (.tup (SqT.of upd_same) (r.gr (Gr.fill n)))
end

section
variable {X : Cx} {E : XK} {a b c : Expr} {es : List Expr} {pos : Pos} {Fa Fb Fc : FxE} {Fr : FxA} {Ga Gb : FxT}
theorem fe_var (i : Nat) {x : Str} {pos : Pos} (hN : X.N[i]? = some x := by rfl) (hv : Vis X.env.scope x := by first | exact Or.inl rfl | exact Or.inr (Or.inl rfl) | exact Or.inr (Or.inr rfl)) (hd : (x == ("__debug__" : Str)) = false := by decide)
    (hcd : (x == ("__classdict__" : Str)) = false := by decide) : FE X E (.Name x pos) (fVar i) := by
  refine ⟨_, pe_var hN hv hd hcd, fun σ H ρ T η Q s r h => ?_⟩
  unfold fVar at h
  split at h
  · rename_i u e
    obtain ⟨v, h1, h2⟩ := r.at_ i u e
    exact ⟨v, h1, okV s h h2⟩
  · exact False.elim h
theorem fe_int {i j pos} : FE X E (.Constant (.int i) j pos) (fC (.int i)) := ⟨_, pe_int, fun _ _ _ _ _ _ s _ h => okV s h (.int i)⟩
theorem fe_bl {k j pos} : FE X E (.Constant (.bool k) j pos) (fC (.bl k)) := ⟨_, pe_bl, fun _ _ _ _ _ _ s _ h => okV s h (.bl k)⟩
theorem fe_non {j pos} : FE X E (.Constant .none j pos) (fC .non) := ⟨_, pe_non, fun _ _ _ _ _ _ s _ h => okV s h .non⟩
theorem fe_str {x j pos} : FE X E (.Constant (.str x) j pos) (fC (.str x)) := ⟨_, pe_str, fun _ _ _ _ _ _ s _ h => okV s h (.str x)⟩
/-- a two-place operation -/
def FOp (X : Cx) (E : XK) (f : Value → Value → Sem Value) (g : U → U → M U) : Prop :=
  ∃ r : R2, OpR X f r ∧ ∀ (ρ : List Addr) (H : Hp) (T : Sto) (u w : U) (x y : V) (Q : V → Hp → Prop), RS X.K ρ H T → RV X.K ρ H u x → RV X.K ρ H w y → OK X.K ρ H E (rV X.K) (g u w T) Q → r x y H Q
theorem fe_op {op : Operator} {g : U → U → M U} (ho : FOp X E (binaryOp op) g) (ha : FE X E a Fa) (hb : FE X E b Fb) : FE X E (.BinOp a op b pos) (fBin g Fa Fb) := by
  obtain ⟨r, h1, h2⟩ := ho
  obtain ⟨ta, ka, qa⟩ := ha
  obtain ⟨tb, kb, qb⟩ := hb
  refine ⟨_, pe_op h1 ka kb, fun σ H ρ T η Q s re h => ?_⟩
  refine qa σ H ρ T η _ s re (OK.mono (OK.bind h) fun x H1 ⟨ρ1, T1, u, g1, s1, r1, k1⟩ => ?_)
  refine qb σ H1 ρ1 T1 η _ s1 (re.gr g1) (OK.mono (OK.bind k1) fun y H2 ⟨ρ2, T2, w, g2, s2, r2, k2⟩ => ?_)
  exact h2 ρ2 H2 T2 u w x y Q s2 (RV.gr r1 g2) r2 k2
theorem fe_cmp {op : CmpOp} {g : U → U → M U} (ho : FOp X E (compareOp op) g) (ha : FE X E a Fa) (hb : FE X E b Fb) (hm : behindInMarks op b = false := by first | exact nomark _ | rfl) : FE X E (.Compare a [op] [b] pos) (fBin g Fa Fb) := by
  obtain ⟨r, h1, h2⟩ := ho
  obtain ⟨ta, ka, qa⟩ := ha
  obtain ⟨tb, kb, qb⟩ := hb
  refine ⟨_, pe_cmpR h1 ka kb hm, fun σ H ρ T η Q s re h => ?_⟩
  refine qa σ H ρ T η _ s re (OK.mono (OK.bind h) fun x H1 ⟨ρ1, T1, u, g1, s1, r1, k1⟩ => ?_)
  refine qb σ H1 ρ1 T1 η _ s1 (re.gr g1) (OK.mono (OK.bind k1) fun y H2 ⟨ρ2, T2, w, g2, s2, r2, k2⟩ => ?_)
  exact h2 ρ2 H2 T2 u w x y Q s2 (RV.gr r1 g2) r2 k2
theorem ft_cmp {op : CmpOp} {g : U → U → M U} (ho : FOp X E (compareOp op) g) (ha : FE X E a Fa) (hb : FE X E b Fb) (hm : behindInMarks op b = false := by first | exact nomark _ | rfl) : FT X E (.Compare a [op] [b] pos) (fBl (fBin g Fa Fb)) := by
  obtain ⟨r, h1, h2⟩ := ho
  obtain ⟨ta, ka, qa⟩ := ha
  obtain ⟨tb, kb, qb⟩ := hb
  refine ⟨_, pt_cmpR h1 ka kb hm, fun σ H ρ T η Q s re h => ?_⟩
  have h' := OK.bind (rel := rV X.K) h
  refine qa σ H ρ T η _ s re (OK.mono (OK.bind h') fun x H1 ⟨ρ1, T1, u, g1, s1, r1, k1⟩ => ?_)
  refine qb σ H1 ρ1 T1 η _ s1 (re.gr g1) (OK.mono (OK.bind k1) fun y H2 ⟨ρ2, T2, w, g2, s2, r2, k2⟩ => ?_)
  refine h2 ρ2 H2 T2 u w x y _ s2 (RV.gr r1 g2) r2 (OK.mono k2 fun z H3 ⟨ρ3, T3, uz, g3, s3, r3, k3⟩ => ?_)
  cases uz with
  | bl k => cases r3; exact ⟨k, rfl, okB s3 k3⟩
  | _ => exact False.elim k3
theorem fe_chain {op op' : CmpOp} {g g' : U → U → M U} (ho : FOp X E (compareOp op) g) (ho' : FOp X E (compareOp op') g') (ha : FE X E a Fa) (hb : FE X E b Fb) (hc : FE X E c Fc)
    (hm : lastMarks [op, op'] [b, c] = false := by rfl) : FE X E (.Compare a [op, op'] [b, c] pos) (fChain g g' Fa Fb Fc) := by
  obtain ⟨r, h1, h2⟩ := ho
  obtain ⟨r', h1', h2'⟩ := ho'
  obtain ⟨ta, ka, qa⟩ := ha
  obtain ⟨tb, kb, qb⟩ := hb
  obtain ⟨tc, kc, qc⟩ := hc
  refine ⟨_, pe_chain h1 h1' ka kb kc hm, fun σ H ρ T η Q s re h => ?_⟩
  refine qa σ H ρ T η _ s re (OK.mono (OK.bind h) fun x H1 ⟨ρ1, T1, u, g1, s1, r1, k1⟩ => ?_)
  refine qb σ H1 ρ1 T1 η _ s1 (re.gr g1) (OK.mono (OK.bind k1) fun y H2 ⟨ρ2, T2, w, g2, s2, r2, k2⟩ => ?_)
  refine h2 ρ2 H2 T2 u w x y _ s2 (RV.gr r1 g2) r2 (OK.mono (OK.bind k2) fun z H3 ⟨ρ3, T3, uz, g3, s3, r3, k3⟩ => ?_)
  cases uz with
  | bl k =>
    cases r3
    refine ⟨k, rfl, ?_⟩
    cases k with
    | true =>
      refine qc σ H3 ρ3 T3 η _ s3 (re.gr (g1.trans (g2.trans g3))) (OK.mono (OK.bind k3) fun q H4 ⟨ρ4, T4, uq, g4, s4, r4, k4⟩ => ?_)
      exact h2' ρ4 H4 T4 w uq y q _ s4 (RV.gr r2 (g3.trans g4)) r4 k4
    | false => exact okV s3 k3 (.bl false)
  | _ => exact False.elim k3
/-! ### truth -/
theorem tru_of {K : PySem.W.Frag} {ρ : List Addr} {H : Hp} {T : Sto} {u : U} {x : V} {k : Bool} (s : RS K ρ H T) (r : RV K ρ H u x) (e : tru T u = some k) : TruV K x H k := by
  cases r with
  | non => cases e; rfl
  | bl b => cases e; rfl
  | int i => cases e; rfl
  | str y =>
    have e : (if y.length ≤ 16777216 then some ((y.length : Int) != 0) else none) = some k := e
    split at e
    · rename_i hl
      cases e
      exact ⟨by rw [sizeLine_eq]; exact hl, rfl⟩
    · cases e
  | tup a rs =>
    cases e
    refine .inr (.inl ⟨_, a, ?_⟩)
    cases rs <;> rfl
  | scr h =>
    cases e
    exact .inl ⟨_, h.sq, by rw [List.isEmpty_map]⟩
  | ob q =>
    rename_i i a
    have e : (match T[i]? with
      | some (.lst xs) => some (!xs.isEmpty)
      | _ => none) = some k := e
    split at e
    · rename_i xs q2
      cases e
      obtain ⟨a, e1, vs, e2, rs⟩ := s.get q2
      rw [q] at e1
      cases e1
      refine .inl ⟨vs, SqL.of e2, ?_⟩
      cases rs <;> rfl
    · cases e
  | raw v => cases e
theorem ft_tru (ha : FE X E a Fa) (he : ∀ whole, isTrue a X.env whole = (do let v ← whole; standAt a.pos; holding [v] (truthy v)) := by intro _; rfl) : FT X E a (fTru Fa) := by
  obtain ⟨ta, ka, qa⟩ := ha
  refine ⟨_, pt_truth ka he, fun σ H ρ T η Q s re h => ?_⟩
  refine qa σ H ρ T η _ s re (OK.mono (OK.bind h) fun x H1 ⟨ρ1, T1, u, g1, s1, r1, k1⟩ => ?_)
  split at k1
  · rename_i k e
    exact ⟨k, tru_of s1 r1 e, okB s1 k1⟩
  · exact False.elim k1
theorem ft_not (ha : FT X E a Ga) : FT X E (.UnaryOp .Not a pos) (fNot Ga) := by
  obtain ⟨ta, ka, qa⟩ := ha
  refine ⟨_, pt_not ka, fun σ H ρ T η Q s re h => ?_⟩
  refine qa σ H ρ T η _ s re (OK.mono (OK.bind h) fun x H1 ⟨ρ1, T1, u, g1, s1, r1, k1⟩ => ?_)
  cases r1
  exact okB s1 k1
theorem fw_and1 (ha : FT X E a Ga) : FW X E (.BoolOp .And [a] pos) Ga := let ⟨ta, ka, qa⟩ := ha; ⟨ta, pw_and1 ka, qa⟩
theorem fw_or1 (ha : FT X E a Ga) : FW X E (.BoolOp .Or [a] pos) Ga := let ⟨ta, ka, qa⟩ := ha; ⟨ta, pw_or1 ka, qa⟩
theorem fw_and {b : Expr} {rest : List Expr} (ha : FT X E a Ga) (hb : FW X E (.BoolOp .And (b :: rest) pos) Gb) : FW X E (.BoolOp .And (a :: b :: rest) pos) (fAnd Ga Gb) := by
  obtain ⟨ta, ka, qa⟩ := ha
  obtain ⟨tb, kb, qb⟩ := hb
  refine ⟨_, pw_and ka kb, fun σ H ρ T η Q s re h => ?_⟩
  refine qa σ H ρ T η _ s re (OK.mono (OK.bind h) fun x H1 ⟨ρ1, T1, u, g1, s1, r1, k1⟩ => ?_)
  cases r1
  cases x with
  | true => exact qb σ H1 ρ1 T1 η Q s1 (re.gr g1) k1
  | false => exact okB s1 k1
theorem fw_or {b : Expr} {rest : List Expr} (ha : FT X E a Ga) (hb : FW X E (.BoolOp .Or (b :: rest) pos) Gb) : FW X E (.BoolOp .Or (a :: b :: rest) pos) (fOr Ga Gb) := by
  obtain ⟨ta, ka, qa⟩ := ha
  obtain ⟨tb, kb, qb⟩ := hb
  refine ⟨_, pw_or ka kb, fun σ H ρ T η Q s re h => ?_⟩
  refine qa σ H ρ T η _ s re (OK.mono (OK.bind h) fun x H1 ⟨ρ1, T1, u, g1, s1, r1, k1⟩ => ?_)
  cases r1
  cases x with
  | true => exact okB s1 k1
  | false => exact qb σ H1 ρ1 T1 η Q s1 (re.gr g1) k1
theorem ft_w (h : FW X E a Ga) : FT X E a Ga := let ⟨ta, ka, qa⟩ := h; ⟨ta, ka.pt, qa⟩
/-- as values -/
theorem fe_one {op} (h : FE X E a Fa) : FE X E (.BoolOp op [a] pos) Fa := let ⟨ta, ka, qa⟩ := h; ⟨ta, pe_one ka, qa⟩
theorem fe_and {b : Expr} {rest : List Expr} (ha : FE X E a Fa) (hb : FE X E (.BoolOp .And (b :: rest) pos) Fb) : FE X E (.BoolOp .And (a :: b :: rest) pos) (fAndV Fa Fb) := by
  obtain ⟨ta, ka, qa⟩ := ha
  obtain ⟨tb, kb, qb⟩ := hb
  refine ⟨_, pe_and ka kb, fun σ H ρ T η Q s re h => ?_⟩
  refine qa σ H ρ T η _ s re (OK.mono (OK.bind h) fun x H1 ⟨ρ1, T1, u, g1, s1, r1, k1⟩ => ?_)
  cases u with
  | bl k =>
    cases r1
    refine ⟨k, rfl, ?_⟩
    cases k with
    | true => exact qb σ H1 ρ1 T1 η Q s1 (re.gr g1) k1
    | false => exact okV s1 k1 (.bl false)
  | _ => exact False.elim k1
theorem fe_or {b : Expr} {rest : List Expr} (ha : FE X E a Fa) (hb : FE X E (.BoolOp .Or (b :: rest) pos) Fb) : FE X E (.BoolOp .Or (a :: b :: rest) pos) (fOrV Fa Fb) := by
  obtain ⟨ta, ka, qa⟩ := ha
  obtain ⟨tb, kb, qb⟩ := hb
  refine ⟨_, pe_or ka kb, fun σ H ρ T η Q s re h => ?_⟩
  refine qa σ H ρ T η _ s re (OK.mono (OK.bind h) fun x H1 ⟨ρ1, T1, u, g1, s1, r1, k1⟩ => ?_)
  cases u with
  | bl k =>
    cases r1
    refine ⟨k, rfl, ?_⟩
    cases k with
    | true => exact okV s1 k1 (.bl true)
    | false => exact qb σ H1 ρ1 T1 η Q s1 (re.gr g1) k1
  | _ => exact False.elim k1
theorem fe_not (ha : FE X E a Fa) : FE X E (.UnaryOp .Not a pos) (fNotV Fa) := by
  obtain ⟨ta, ka, qa⟩ := ha
  refine ⟨_, pe_notT ka, fun σ H ρ T η Q s re h => ?_⟩
  refine qa σ H ρ T η _ s re (OK.mono (OK.bind h) fun x H1 ⟨ρ1, T1, u, g1, s1, r1, k1⟩ => ?_)
  split at k1
  · rename_i k e
    exact ⟨k, tru_of s1 r1 e, okV s1 k1 (.bl _)⟩
  · exact False.elim k1
theorem fe_if {c : Expr} {Gc : FxT} (hc : FT X E c Gc) (ha : FE X E a Fa) (hb : FE X E b Fb) : FE X E (.IfExp c a b pos) (fIfE Gc Fa Fb) := by
  obtain ⟨tc, kc, qc⟩ := hc
  obtain ⟨ta, ka, qa⟩ := ha
  obtain ⟨tb, kb, qb⟩ := hb
  refine ⟨_, pe_ifExp kc ka kb, fun σ H ρ T η Q s re h => ?_⟩
  refine qc σ H ρ T η _ s re (OK.mono (OK.bind h) fun x H1 ⟨ρ1, T1, u, g1, s1, r1, k1⟩ => ?_)
  cases r1
  cases x with
  | true => exact qa σ H1 ρ1 T1 η Q s1 (re.gr g1) k1
  | false => exact qb σ H1 ρ1 T1 η Q s1 (re.gr g1) k1
/-! ### argument lists, displays, calls of built-ins -/
theorem fa_nil : FA X E [] fNil := ⟨_, pa_nil, fun _ _ _ _ _ _ s _ h => h _ _ _ Gr.refl s .nil⟩
theorem fa_cons {e : Expr} {es : List Expr} (ha : FE X E e Fa) (hr : FA X E es Fr) (hs : starEach (e :: es) X.env = (false, eval e X.env) :: starEach es X.env := by rfl) : FA X E (e :: es) (fCons Fa Fr) := by
  obtain ⟨ta, ka, qa⟩ := ha
  obtain ⟨tr, kr, qr⟩ := hr
  refine ⟨_, pa_cons ka kr hs, fun σ H ρ T η Q s re h => ?_⟩
  refine qa σ H ρ T η _ s re (OK.mono (OK.bind h) fun x H1 ⟨ρ1, T1, u, g1, s1, r1, k1⟩ => ?_)
  refine qr σ H1 ρ1 T1 η _ s1 (re.gr g1) (OK.mono (OK.bind k1) fun xs H2 ⟨ρ2, T2, us, g2, s2, r2, k2⟩ => ?_)
  exact k2 _ _ _ Gr.refl s2 (.cons (RV.gr r1 g2) r2)
theorem fe_tup {es : List Expr} {k : Nat} (h : FA X E es Fr) : FE X E (.Tuple es k pos) (fTup Fr) := by
  obtain ⟨tr, kr, qr⟩ := h
  refine ⟨_, pe_tup kr, fun σ H ρ T η Q s re h => ?_⟩
  refine qr σ H ρ T η _ s re (OK.mono (OK.bind h) fun xs H1 ⟨ρ1, T1, us, g1, s1, r1, k1⟩ => ?_)
  split at k1
  · rename_i hl
    exact ⟨by rw [← RVs.length r1, sizeLine_eq]; exact hl, fun p n => okTup s1 k1 r1 n⟩
  · exact False.elim k1
theorem fe_lst {es : List Expr} (h : FA X E es Fr) : FE X E (.List es pos) (fLst Fr) := by
  obtain ⟨tr, kr, qr⟩ := h
  refine ⟨_, pe_lst kr, fun σ H ρ T η Q s re h => ?_⟩
  refine qr σ H ρ T η _ s re (OK.mono (OK.bind h) fun xs H1 ⟨ρ1, T1, us, g1, s1, r1, k1⟩ => ?_)
  split at k1
  · rename_i hl
    exact ⟨by rw [← RVs.length r1, sizeLine_eq]; exact hl, fun p n => okNew s1 k1 r1 n⟩
  · exact False.elim k1
/-- a one-place operation -/
def FUn (X : Cx) (E : XK) (f : Value → Sem Value) (g : U → M U) : Prop :=
  ∃ r : V → Hp → VK → Prop, UnR X f r ∧ ∀ (ρ : List Addr) (H : Hp) (T : Sto) (u : U) (x : V) (Q : V → Hp → Prop), RS X.K ρ H T → RV X.K ρ H u x → OK X.K ρ H E (rV X.K) (g u T) Q → r x H Q
theorem fe_un {op : UnaryOp} {g : U → M U} (ho : FUn X E (unaryOp op) g) (ha : FE X E a Fa) : FE X E (.UnaryOp op a pos) (fUn g Fa) := by
  obtain ⟨r, h1, h2⟩ := ho
  obtain ⟨ta, ka, qa⟩ := ha
  refine ⟨_, pe_un h1 ka, fun σ H ρ T η Q s re h => ?_⟩
  exact qa σ H ρ T η _ s re (OK.mono (OK.bind h) fun x H1 ⟨ρ1, T1, u, g1, s1, r1, k1⟩ => h2 ρ1 H1 T1 u x Q s1 r1 k1)
/-- a call of a built-in value -/
def FCall (X : Cx) (E : XK) (f : Value) (g : List U → M U) : Prop :=
  ∃ r : List V → Hp → VK → Prop, CallR X f r ∧ ∀ (ρ : List Addr) (H : Hp) (T : Sto) (us : List U) (xs : List V) (Q : V → Hp → Prop), RS X.K ρ H T → RVs X.K ρ H us xs → OK X.K ρ H E (rV X.K) (g us T) Q → r xs H Q
theorem fe_callB {id : String} {x : Str} {p : Pos} {e : Expr} {es : List Expr} {g : List U → M U} (hc : FCall X E (.builtin id) g) (hg : Gl X x) (hm : X.mg x = none) (hv : bootBuiltins x = some (.builtin id)) (ha : FA X E (e :: es) Fr) (hn : x ≠ "__name__" := by decide)
    (hdb : (x == ("__debug__" : Str)) = false := by decide) (he : starEach (e :: es) X.env = (false, eval e X.env) :: starEach es X.env := by rfl) (hpl : (backTo pos (starEach es X.env)).any (·.1) = false := by rfl) : FE X E (.Call (.Name x p) (e :: es) [] pos) (fCall g Fr) := by
  obtain ⟨r, h1, h2⟩ := hc
  obtain ⟨tr, kr, qr⟩ := ha
  refine ⟨_, pe_callB h1 hg hm hv kr hn hdb he hpl, fun σ H ρ T η Q s re h => ?_⟩
  exact qr σ H ρ T η _ s re (OK.mono (OK.bind h) fun xs H1 ⟨ρ1, T1, us, g1, s1, r1, k1⟩ => h2 ρ1 H1 T1 us xs Q s1 r1 k1)
theorem fe_callTy {id : String} {x : Str} {p : Pos} {e : Expr} {es : List Expr} {g : List U → M U} (hc : FCall X E (.type id) g) (hg : Gl X x) (hm : X.mg x = none) (hv : bootBuiltins x = some (.type id)) (ha : FA X E (e :: es) Fr) (hn : x ≠ "__name__" := by decide)
    (hdb : (x == ("__debug__" : Str)) = false := by decide) (he : starEach (e :: es) X.env = (false, eval e X.env) :: starEach es X.env := by rfl) (hpl : (backTo pos (starEach es X.env)).any (·.1) = false := by rfl) : FE X E (.Call (.Name x p) (e :: es) [] pos) (fCall g Fr) := by
  obtain ⟨r, h1, h2⟩ := hc
  obtain ⟨tr, kr, qr⟩ := ha
  refine ⟨_, pe_callTy h1 hg hm hv kr hn hdb he hpl, fun σ H ρ T η Q s re h => ?_⟩
  exact qr σ H ρ T η _ s re (OK.mono (OK.bind h) fun xs H1 ⟨ρ1, T1, us, g1, s1, r1, k1⟩ => h2 ρ1 H1 T1 us xs Q s1 r1 k1)
end
end Lf


set_option Elab.async false
set_option linter.all false
set_option maxRecDepth 100000
set_option maxHeartbeats 4000000
/-! ## operators, built-ins, subscripts -/
namespace Lf
open PySem PySem.Spec L2

theorem sz16 : (sizeLine : Nat) = 16777216 := sizeLine_eq
/-- data: scalars, tuples, lists of such (lists through the store), n deep at most -/
def dats (f : U → Option PyData) : List U → Option (List PyData)
  | [] => some []
  | u :: us => match f u, dats f us with
    | some d, some ds => some (d :: ds)
    | _, _ => none
def dat (T : Sto) : Nat → U → Option PyData
  | _, .non => some .none
  | _, .bl b => some (.bool b)
  | _, .int i => some (.int i)
  | _, .str x => some (.str x)
  | n + 1, .tup xs => (dats (dat T n) xs).map .tuple
  | n + 1, .ob i => match T[i]? with
    | some (.lst xs) => (dats (dat T n) xs).map .list
    | _ => none
  | _, .scr ns => some (.list (ns.map .int))
  | _, _ => none
section
variable {K : PySem.W.Frag} {ρ : List Addr} {H : Hp} {T : Sto}
theorem dpInts : ∀ ns : List Int, DpAll K H (ns.map V.int) (ns.map PyData.int)
  | [] => .nil
  | n :: ns => .cons (.int n) (dpInts ns)
theorem dats_ok {f : U → Option PyData} (hf : ∀ u v d, RV K ρ H u v → f u = some d → Dp K H v d) : ∀ {us : List U} {vs : List V} {ds : List PyData}, RVs K ρ H us vs → dats f us = some ds → DpAll K H vs ds
  | _, _, _, .nil, e => by cases e; exact .nil
  | u :: us, _, ds, .cons r rs, e => by
    unfold dats at e
    split at e
    · rename_i d ds' e1 e2
      cases e
      exact .cons (hf _ _ _ r e1) (dats_ok hf rs e2)
    · cases e
theorem dat_ok (s : RS K ρ H T) : ∀ (n : Nat) (u : U) (v : V) (d : PyData), RV K ρ H u v → dat T n u = some d → Dp K H v d
  | n, u, v, d, r, e => by
    cases r with
    | non => cases n <;> (cases e; exact .non)
    | bl b => cases n <;> (cases e; exact .bl b)
    | int i => cases n <;> (cases e; exact .int i)
    | str x => cases n <;> (cases e; exact .str x)
    | @tup a vs us q rs =>
      cases n with
      | zero => cases e
      | succ n =>
        have e : (dats (dat T n) us).map PyData.tuple = some d := e
        obtain ⟨ds, e1, e2⟩ := Option.map_eq_some_iff.mp e
        subst e2
        exact .tup q (dats_ok (fun u v d => dat_ok s n u v d) rs e1)
    | @ob i a q =>
      cases n with
      | zero => cases e
      | succ n =>
        have e : (match T[i]? with
          | some (.lst xs) => (dats (dat T n) xs).map .list
          | _ => none) = some d := e
        split at e
        · rename_i xs q2
          obtain ⟨ds, e1, e2⟩ := Option.map_eq_some_iff.mp e
          subst e2
          obtain ⟨b, h1, vs, h2, rs⟩ := s.get q2
          rw [q] at h1
          cases h1
          exact .lst (SqL.of h2) (dats_ok (fun u v d => dat_ok s n u v d) rs e1)
        · cases e
    | scr h => cases n <;> (cases e; exact .lst h.sq (dpInts _))
    | raw v => cases n <;> cases e
end

theorem RVs.rep {K : PySem.W.Frag} {ρ : List Addr} {H : Hp} {us : List U} {vs : List V} (r : RVs K ρ H us vs) : ∀ k : Nat, RVs K ρ H (List.replicate k us).flatten (List.replicate k vs).flatten
  | 0 => .nil
  | k + 1 => by
    rw [List.replicate_succ, List.replicate_succ, List.flatten_cons, List.flatten_cons]
    exact r.append (RVs.rep r k)
/-! ### the operations on trees -/
def gAdd : U → U → M U
  | .int i, .int j, T => .ok (.int (i + j)) T
  | .str x, .str y, T => if x.length + y.length ≤ 16777216 then .ok (.str (x ++ y)) T else .no
  | .tup xs, .tup ys, T => if xs.length + ys.length ≤ 16777216 then .ok (.tup (xs ++ ys)) T else .no
  | .ob i, .ob j, T => match T[i]?, T[j]? with
    | some (.lst xs), some (.lst ys) => if xs.length + ys.length ≤ 16777216 then nw (.lst (xs ++ ys)) T else .no
    | _, _ => .no
  | _, _, _ => .no
def gSub : U → U → M U
  | .int i, .int j, T => .ok (.int (i - j)) T
  | _, _, _ => .no
def strRep (x : Str) (n : Int) : Str := ⟨(List.replicate n.toNat x.cps).foldl (· ++ ·) #[]⟩
def gMul : U → U → M U
  | .int i, .int j, T => if i.natAbs.log2 + j.natAbs.log2 < 1000000 then .ok (.int (i * j)) T else .no
  | .str z, .int n, T => if -1000000 < n ∧ n < 1000000 ∧ z.length < 1000 ∧ (strRep z n).length ≤ 16777216 ∧ z.length * n.toNat ≤ 16777216 then .ok (.str (if n < 1 then Str.empty else if (n == 1 || z.length == 0) = true then z else strRep z n)) T else .no
  | .ob i, .int k, T => match T[i]? with
    | some (.lst xs) => if xs.length * k.toNat ≤ 16777216 ∧ -9223372036854775808 ≤ k ∧ k < 9223372036854775808 then nw (.lst (List.replicate k.toNat xs).flatten) T else .no
    | _ => .no
  | _, _, _ => .no
def gDiv : U → U → M U
  | .int i, .int j, T => if 0 < j ∧ j.natAbs.log2 < 9000 then .ok (.int (i / j)) T else .no
  | _, _, _ => .no
def gMod : U → U → M U
  | .int i, .int j, T => if 0 < j then .ok (.int (i % j)) T else .no
  | _, _, _ => .no
def gPow : U → U → M U
  | .int i, .int j, T => if 0 ≤ j ∧ j ≤ 1000000 ∧ i.natAbs < 18446744073709551616 then .ok (.int (i ^ j.toNat)) T else .no
  | _, _, _ => .no
def gNeg : U → M U
  | .int i, T => .ok (.int (-i)) T
  | _, _ => .no
def gEqD (neg : Bool) : U → U → M U := fun u v T => match dat T 66 u, dat T 66 v with
  | some d, some e => if SeqAt.shaped d = true ∧ SeqAt.shaped e = true then .ok (.bl (if neg then !PyData.eqv d e else PyData.eqv d e)) T else .no
  | _, _ => .no
def gCmp (p : Int → Int → Bool) : U → U → M U
  | .int i, .int j, T => .ok (.bl (p i j)) T
  | _, _, _ => .no
def gIs (neg : Bool) : U → U → M U
  | .non, .non, T => .ok (.bl (!neg)) T
  | .bl a, .bl b, T => .ok (.bl (if neg then !decide (a = b) else decide (a = b))) T
  | u, .non, T => match u with
    | .non => .no
    | .raw _ => .no
    | _ => .ok (.bl neg) T
  | _, _, _ => .no
section
variable {X : Cx} {E : XK}
theorem op_tup0 : OpR X (binaryOp .Add) (fun x y H Q => ∃ a b ys, x = .ref a ∧ y = .ref b ∧ SqT X.K H a [] ∧ SqT X.K H b ys ∧ ys.length ≤ sizeLine ∧ Q (.ref b) H) := by
  intro pins s σ H x y v u Q I rx ry h
  obtain ⟨a, b, ys, rfl, rfl, h1, h2, hz, q⟩ := h
  cases rx
  cases ry
  obtain ⟨its, r1, t1, z1⟩ := I.tuple h1
  obtain ⟨jts, r2, t2, z2⟩ := I.tuple h2
  cases r1
  obtain ⟨m, F⟩ := I.fr
  exact PyProof.Rows.add_tuples F PyProof.Rows.News.nil t1 t2 (fun _ => ⟨.ref b, H, I, rfl, q⟩) (fun e => absurd rfl e) (fun e => absurd rfl e) (by rw [List.length_nil, Nat.zero_add, ← r2.length]; exact hz)
theorem fop_add : FOp X E (binaryOp .Add) gAdd := by
  refine ⟨_, op_add.or (op_add_str.or (op_tup0.or (op_catT.or op_cat))), fun ρ H T u w x y Q s ru rw h => ?_⟩
  cases u with
  | int i =>
    cases w with
    | int j => cases ru; cases rw; exact .inl ⟨i, j, rfl, rfl, okV s h (.int _)⟩
    | _ => exact False.elim h
  | str i =>
    cases w with
    | str j =>
      cases ru
      cases rw
      have h : OK X.K ρ H E (rV X.K) (if i.length + j.length ≤ 16777216 then .ok (.str (i ++ j)) T else .no) Q := h
      split at h
      · rename_i hl
        exact .inr (.inl ⟨i, j, rfl, rfl, by rw [sz16]; exact hl, okV s h (.str _)⟩)
      · exact False.elim h
    | _ => exact False.elim h
  | tup xs =>
    cases w with
    | tup ys =>
      have h : OK X.K ρ H E (rV X.K) (if xs.length + ys.length ≤ 16777216 then .ok (.tup (xs ++ ys)) T else .no) Q := h
      split at h
      · rename_i hl
        cases ru with
        | @tup a vs _ q1 r1 =>
          cases rw with
          | @tup b ws _ q2 r2 =>
            have l1 := r1.length
            have l2 := r2.length
            by_cases e : vs = []
            · subst e
              cases r1
              refine .inr (.inr (.inl ⟨a, b, ws, rfl, rfl, q1, q2, by rw [sz16]; simp only [List.length_nil] at hl; omega, ?_⟩))
              exact okV s h (.tup q2 r2)
            · refine .inr (.inr (.inr (.inl ⟨a, b, vs, ws, rfl, rfl, q1, q2, e, by rw [sz16]; omega, fun e2 => ?_, fun _ p n => okTup s h (r1.append r2) n⟩)))
              subst e2
              cases r2
              rw [List.append_nil] at h
              exact okV s h (.tup q1 r1)
      · exact False.elim h
    | _ => exact False.elim h
  | ob i =>
    cases w with
    | ob j =>
      have h : OK X.K ρ H E (rV X.K) (match T[i]?, T[j]? with
        | some (.lst xs), some (.lst ys) => if xs.length + ys.length ≤ 16777216 then nw (.lst (xs ++ ys)) T else .no
        | _, _ => .no) Q := h
      split at h
      · rename_i xs ys e1 e2
        split at h
        · rename_i hl
          cases ru with
          | @ob _ a q1 =>
            cases rw with
            | @ob _ b q2 =>
              obtain ⟨a', p1, vs, f1, r1⟩ := s.get e1
              obtain ⟨b', p2, ws, f2, r2⟩ := s.get e2
              rw [q1] at p1
              cases p1
              rw [q2] at p2
              cases p2
              exact .inr (.inr (.inr (.inr ⟨a, b, vs, ws, rfl, rfl, f1, f2, by rw [sz16, ← r1.length, ← r2.length]; exact hl, fun p n => okNew s h (r1.append r2) n⟩)))
        · exact False.elim h
      · exact False.elim h
    | _ => exact False.elim h
  | _ => exact False.elim h
theorem fop_sub : FOp X E (binaryOp .Sub) gSub := by
  refine ⟨_, op_sub, fun ρ H T u w x y Q s ru rw h => ?_⟩
  cases u with
  | int i =>
    cases w with
    | int j => cases ru; cases rw; exact ⟨i, j, rfl, rfl, okV s h (.int _)⟩
    | _ => exact False.elim h
  | _ => exact False.elim h
theorem op_strMul : OpR X (binaryOp .Mult) (fun x y H Q => ∃ z n, x = .str z ∧ y = .int n ∧ -1000000 < n ∧ n < 1000000 ∧ z.length < 1000 ∧ (strRep z n).length ≤ sizeLine ∧ z.length * n.toNat ≤ sizeLine ∧ Q (.str (if n < 1 then Str.empty else if (n == 1 || z.length == 0) = true then z else strRep z n)) H) := by
  intro pins s σ H x y v u Q I rx ry h
  obtain ⟨z, n, rfl, rfl, h1, h2, h4, h5, h6, q⟩ := h
  obtain ⟨t, rfl⟩ := rx
  obtain ⟨t', rfl⟩ := ry
  refine PySem.P.mul_str ?_ (fun g1 g2 => ?_) (fun _ _ => ?_) ?_
  · rw [decide_eq_false (by omega), decide_eq_false (by omega)]; rfl
  · have : (z.length : Int) ≤ (2 ^ 63 - 1) / n := Int.le_ediv_of_mul_le (by omega) (Int.le_trans (b := 1000 * 1000000) (Int.mul_le_mul (by omega) (by omega) (by omega) (by omega)) (by omega))
    omega
  · exact decide_eq_false (by omega)
  · by_cases g1 : n < 1
    · rw [if_pos g1] at q ⊢
      exact ⟨by decide, .str _, H, I.tok _, ⟨_, rfl⟩, q⟩
    · rw [if_neg g1] at q ⊢
      split at q
      · rename_i g2
        rw [if_pos g2]
        exact ⟨.str _, H, I, ⟨_, rfl⟩, q⟩
      · rename_i g2
        rw [if_neg g2]
        exact ⟨h5, .str _, H, I.tok _, ⟨_, rfl⟩, q⟩
theorem fop_mul : FOp X E (binaryOp .Mult) gMul := by
  refine ⟨_, op_mulW.or (op_strMul.or op_rep), fun ρ H T u w x y Q s ru rw h => ?_⟩
  cases u with
  | int i =>
    cases w with
    | int j =>
      cases ru
      cases rw
      have h : OK X.K ρ H E (rV X.K) (if i.natAbs.log2 + j.natAbs.log2 < 1000000 then .ok (.int (i * j)) T else .no) Q := h
      split at h
      · rename_i hl
        exact .inl ⟨i, j, rfl, rfl, hl, okV s h (.int _)⟩
      · exact False.elim h
    | _ => exact False.elim h
  | str z =>
    cases w with
    | int n =>
      cases ru
      cases rw
      have h : OK X.K ρ H E (rV X.K) (if -1000000 < n ∧ n < 1000000 ∧ z.length < 1000 ∧ (strRep z n).length ≤ 16777216 ∧ z.length * n.toNat ≤ 16777216 then .ok (.str (if n < 1 then Str.empty else if (n == 1 || z.length == 0) = true then z else strRep z n)) T else .no) Q := h
      split at h
      · rename_i hl
        exact .inr (.inl ⟨z, n, rfl, rfl, hl.1, hl.2.1, hl.2.2.1, by rw [sz16]; exact hl.2.2.2.1, by rw [sz16]; exact hl.2.2.2.2, okV s h (.str _)⟩)
      · exact False.elim h
    | _ => exact False.elim h
  | ob i =>
    cases w with
    | int k =>
      cases rw
      have h : OK X.K ρ H E (rV X.K) (match T[i]? with
        | some (.lst xs) => if xs.length * k.toNat ≤ 16777216 ∧ -9223372036854775808 ≤ k ∧ k < 9223372036854775808 then nw (.lst (List.replicate k.toNat xs).flatten) T else .no
        | _ => .no) Q := h
      split at h
      · rename_i xs e1
        split at h
        · rename_i hl
          cases ru with
          | @ob _ a q1 =>
            obtain ⟨a', p1, vs, f1, r1⟩ := s.get e1
            rw [q1] at p1
            cases p1
            exact .inr (.inr ⟨a, k, vs, rfl, rfl, f1, hl.2.1, hl.2.2, by rw [sz16, ← r1.length]; exact hl.1, fun p n => okNew s h (r1.rep _) n⟩)
        · exact False.elim h
      · exact False.elim h
    | _ => exact False.elim h
  | _ => exact False.elim h
theorem fop_div : FOp X E (binaryOp .FloorDiv) gDiv := by
  refine ⟨_, op_fdivW, fun ρ H T u w x y Q s ru rw h => ?_⟩
  cases u with
  | int i =>
    cases w with
    | int j =>
      cases ru
      cases rw
      have h : OK X.K ρ H E (rV X.K) (if 0 < j ∧ j.natAbs.log2 < 9000 then .ok (.int (i / j)) T else .no) Q := h
      split at h
      · rename_i hl
        exact ⟨i, j, rfl, rfl, hl, okV s h (.int _)⟩
      · exact False.elim h
    | _ => exact False.elim h
  | _ => exact False.elim h
theorem fop_mod : FOp X E (binaryOp .Mod) gMod := by
  refine ⟨_, op_mod, fun ρ H T u w x y Q s ru rw h => ?_⟩
  cases u with
  | int i =>
    cases w with
    | int j =>
      cases ru
      cases rw
      have h : OK X.K ρ H E (rV X.K) (if 0 < j then .ok (.int (i % j)) T else .no) Q := h
      split at h
      · rename_i hl
        exact ⟨i, j, rfl, rfl, hl, okV s h (.int _)⟩
      · exact False.elim h
    | _ => exact False.elim h
  | _ => exact False.elim h
theorem fop_pow : FOp X E (binaryOp .Pow) gPow := by
  refine ⟨_, op_pow, fun ρ H T u w x y Q s ru rw h => ?_⟩
  cases u with
  | int i =>
    cases w with
    | int j =>
      cases ru
      cases rw
      have h : OK X.K ρ H E (rV X.K) (if 0 ≤ j ∧ j ≤ 1000000 ∧ i.natAbs < 18446744073709551616 then .ok (.int (i ^ j.toNat)) T else .no) Q := h
      split at h
      · rename_i hl
        exact ⟨i, j, rfl, rfl, hl, okV s h (.int _)⟩
      · exact False.elim h
    | _ => exact False.elim h
  | _ => exact False.elim h
theorem fun_neg : FUn X E (unaryOp .USub) gNeg := by
  refine ⟨_, un_neg, fun ρ H T u x Q s ru h => ?_⟩
  cases u with
  | int i => cases ru; exact ⟨i, rfl, okV s h (.int _)⟩
  | _ => exact False.elim h
theorem fop_cmp {f : Value → Value → Sem Value} {p : Int → Int → Bool} (ho : OpR X f (rI0 fun i j => .bl (p i j))) : FOp X E f (gCmp p) := by
  refine ⟨_, ho, fun ρ H T u w x y Q s ru rw h => ?_⟩
  cases u with
  | int i =>
    cases w with
    | int j => cases ru; cases rw; exact ⟨i, j, rfl, rfl, okV s h (.bl _)⟩
    | _ => exact False.elim h
  | _ => exact False.elim h
abbrev gLt := gCmp fun i j => decide (i < j)
abbrev gLe := gCmp fun i j => decide (i ≤ j)
abbrev gGt := gCmp fun i j => decide (j < i)
abbrev gGe := gCmp fun i j => decide (j ≤ i)
theorem fop_lt : FOp X E (compareOp .Lt) gLt := fop_cmp op_lt
theorem fop_le : FOp X E (compareOp .LtE) gLe := fop_cmp op_le
theorem fop_gt : FOp X E (compareOp .Gt) gGt := fop_cmp op_gt
theorem fop_ge : FOp X E (compareOp .GtE) gGe := fop_cmp op_ge
theorem gEqD_ok {ρ : List Addr} {H : Hp} {T : Sto} {neg : Bool} {u w : U} {x y : V} {Q : V → Hp → Prop} (s : RS X.K ρ H T) (ru : RV X.K ρ H u x) (rw_ : RV X.K ρ H w y) (h : OK X.K ρ H E (rV X.K) (gEqD neg u w T) Q) :
    ∃ d e, Dp X.K H x d ∧ Dp X.K H y e ∧ SeqAt.shaped d = true ∧ SeqAt.shaped e = true ∧ Q (.bl (if neg then !PyData.eqv d e else PyData.eqv d e)) H := by
  unfold gEqD at h
  split at h
  · rename_i d e e1 e2
    split at h
    · rename_i hl
      exact ⟨d, e, dat_ok s _ _ _ _ ru e1, dat_ok s _ _ _ _ rw_ e2, hl.1, hl.2, okV s h (.bl _)⟩
    · exact False.elim h
  · exact False.elim h
/-- ==; two texts are compared as they are -/
def gEq (neg : Bool) : U → U → M U := fun u v T => match u, v with
  | .str x, .str y => .ok (.bl (if neg then !decide (x = y) else decide (x = y))) T
  | u, v => gEqD neg u v T
theorem dec_str (x y : Str) : decide (V.str x = V.str y) = decide (x = y) := by
  by_cases h : x = y
  · subst h; simp
  · rw [decide_eq_false h, decide_eq_false (fun z => h (by cases z; rfl))]
theorem fop_eq (hu : X.A.units + 64 < cLine) : FOp X E (compareOp .Eq) (gEq false) := by
  refine ⟨_, OpR.or op_eq (op_eqD hu), fun ρ H T u w x y Q s ru rw h => ?_⟩
  unfold gEq at h
  split at h
  · cases ru; cases rw
    exact .inl ⟨rfl, by rw [dec_str]; exact okV s h (.bl _)⟩
  · exact .inr (gEqD_ok (neg := false) s ru rw h)
theorem fop_ne (hu : X.A.units + 64 < cLine) : FOp X E (compareOp .NotEq) (gEq true) := by
  refine ⟨_, OpR.or op_ne (op_neD hu), fun ρ H T u w x y Q s ru rw h => ?_⟩
  unfold gEq at h
  split at h
  · cases ru; cases rw
    exact .inl ⟨rfl, by rw [dec_str]; exact okV s h (.bl _)⟩
  · exact .inr (gEqD_ok (neg := true) s ru rw h)
theorem fop_is : FOp X E (compareOp .Is) (gIs false) := by
  refine ⟨_, op_isN.or op_isBl, fun ρ H T u w x y Q s ru rw h => ?_⟩
  cases w with
  | non =>
    cases rw
    cases ru with
    | non => exact .inl ⟨rfl, okV s h (.bl true)⟩
    | raw v => exact False.elim h
    | _ => exact .inl ⟨rfl, okV s h (.bl false)⟩
  | bl b =>
    cases ru with
    | bl a => cases rw; exact .inr ⟨a, b, rfl, rfl, okV s h (.bl _)⟩
    | _ => exact False.elim h
  | _ => cases u <;> exact False.elim h
theorem fop_isnot : FOp X E (compareOp .IsNot) (gIs true) := by
  refine ⟨_, op_notN.or op_notBl, fun ρ H T u w x y Q s ru rw h => ?_⟩
  cases w with
  | non =>
    cases rw
    cases ru with
    | non => exact .inl ⟨rfl, okV s h (.bl false)⟩
    | raw v => exact False.elim h
    | _ => exact .inl ⟨rfl, okV s h (.bl true)⟩
  | bl b =>
    cases ru with
    | bl a => cases rw; exact .inr ⟨a, b, rfl, rfl, okV s h (.bl _)⟩
    | _ => exact False.elim h
  | _ => cases u <;> exact False.elim h
end
end Lf


set_option Elab.async false
set_option linter.all false
set_option maxRecDepth 100000
set_option maxHeartbeats 4000000
/-! ## statements, targets, loops, comprehensions -/
namespace Lf
open PySem PySem.Spec L2

inductive Fl where
  | nx
  | bk
  | ct
  | rt (u : U)
abbrev FxS := Lo → M (Fl × Lo)
/-- what a statement's result asks of its ends -/
def OKS (K : PySem.W.Frag) (ρ : List Addr) (H : Hp) (E : XK) (r : R (Fl × Lo)) (D : Ends) : Prop :=
  match r with
  | .no => False
  | .ok (.nx, η) T => ∀ (ρ' : List Addr) (H' : Hp) (σ' : L2.St), Gr K ρ H ρ' H' → RS K ρ' H' T → RE K ρ' H' η σ' → D.nx σ' H'
  | .ok (.bk, η) T => ∀ (ρ' : List Addr) (H' : Hp) (σ' : L2.St), Gr K ρ H ρ' H' → RS K ρ' H' T → RE K ρ' H' η σ' → D.bk σ' H'
  | .ok (.ct, η) T => ∀ (ρ' : List Addr) (H' : Hp) (σ' : L2.St), Gr K ρ H ρ' H' → RS K ρ' H' T → RE K ρ' H' η σ' → D.ct σ' H'
  | .ok (.rt u, _) T => ∀ (ρ' : List Addr) (H' : Hp) (v : V), Gr K ρ H ρ' H' → RS K ρ' H' T → RV K ρ' H' u v → D.rt v H'
  | .ex e T => XR K ρ H E e T
structure FS (X : Cx) (E : XK) (st : Stmt) (F : FxS) : Prop where
  ex : ∃ t : TS, PS X st t ∧ ∀ (σ : L2.St) (H : Hp) (ρ : List Addr) (T : Sto) (η : Lo) (D : Ends), RS X.K ρ H T → RE X.K ρ H η σ → OKS X.K ρ H E (F η T) D → t D σ H
structure FSs (X : Cx) (E : XK) (st : List Stmt) (F : FxS) : Prop where
  ex : ∃ t : TS, PSs X st t ∧ ∀ (σ : L2.St) (H : Hp) (ρ : List Addr) (T : Sto) (η : Lo) (D : Ends), RS X.K ρ H T → RE X.K ρ H η σ → OKS X.K ρ H E (F η T) D → t D σ H
/-- the slots that are written -/
def Wr (ws : List Nat) (σ σ' : L2.St) : Prop := σ'.length = σ.length ∧ ∀ j, j ∉ ws → σ'[j]? = σ[j]?
structure FG (X : Cx) (E : XK) (e : Expr) (ws : List Nat) (G : U → Lo → M Lo) : Prop where
  ex : ∃ t : TG, PG X e t ∧ ∀ (σ : L2.St) (H : Hp) (ρ : List Addr) (T : Sto) (η : Lo) (u : U) (v : V) (Q : L2.St → Hp → Prop), RS X.K ρ H T → RE X.K ρ H η σ → RV X.K ρ H u v →
    OK X.K ρ H E (fun ρ' H' η' σ' => RE X.K ρ' H' η' σ' ∧ Wr ws σ σ') (G u η T) Q → t v σ H Q
structure FGs (X : Cx) (E : XK) (es : List Expr) (ws : List Nat) (G : List U → Lo → M Lo) : Prop where
  ex : ∃ t : TGs, PGs X es t ∧ ∀ (σ : L2.St) (H : Hp) (ρ : List Addr) (T : Sto) (η : Lo) (us : List U) (vs : List V) (Q : L2.St → Hp → Prop), RS X.K ρ H T → RE X.K ρ H η σ → RVs X.K ρ H us vs →
    OK X.K ρ H E (fun ρ' H' η' σ' => RE X.K ρ' H' η' σ' ∧ Wr ws σ σ') (G us η T) Q → t vs σ H Q
section
variable {K : PySem.W.Frag} {ρ ρ' : List Addr} {H H' : Hp} {T : Sto} {E : XK} {α β : Type} {rel : Rel α β}
theorem OKS.gr {r : R (Fl × Lo)} {D : Ends} (h : OKS K ρ H E r D) (g : Gr K ρ H ρ' H') : OKS K ρ' H' E r D := by
  cases r with
  | no => exact h
  | ok a T =>
    obtain ⟨f, η⟩ := a
    cases f with
    | nx => exact fun ρ2 H2 b g2 s q => h ρ2 H2 b (g.trans g2) s q
    | bk => exact fun ρ2 H2 b g2 s q => h ρ2 H2 b (g.trans g2) s q
    | ct => exact fun ρ2 H2 b g2 s q => h ρ2 H2 b (g.trans g2) s q
    | rt u => exact fun ρ2 H2 b g2 s q => h ρ2 H2 b (g.trans g2) s q
  | ex e T => exact XR.gr h g
theorem OKS.bind {r : R α} {k : α → M (Fl × Lo)} {D : Ends} (h : OKS K ρ H E (r.bind k) D) :
    OK K ρ H E rel r (fun b H1 => ∃ (ρ1 : List Addr) (T1 : Sto) (a : α), Gr K ρ H ρ1 H1 ∧ RS K ρ1 H1 T1 ∧ rel ρ1 H1 a b ∧ OKS K ρ1 H1 E (k a T1) D) := by
  cases r with
  | no => exact h
  | ok a T => exact fun ρ1 H1 b g s q => ⟨ρ1, T, a, g, s, q, OKS.gr h g⟩
  | ex e T => exact h
/-- a statement's result, then more -/
theorem OKS.seq {r : R (Fl × Lo)} {k : Fl × Lo → M (Fl × Lo)} {D D' : Ends} (h : OKS K ρ H E (r.bind k) D)
    (hn : ∀ η T (ρ1 : List Addr) (H1 : Hp) (σ1 : L2.St), r = .ok (.nx, η) T → Gr K ρ H ρ1 H1 → RS K ρ1 H1 T → RE K ρ1 H1 η σ1 → OKS K ρ1 H1 E (k (.nx, η) T) D → D'.nx σ1 H1)
    (hb : ∀ η T (ρ1 : List Addr) (H1 : Hp) (σ1 : L2.St), r = .ok (.bk, η) T → Gr K ρ H ρ1 H1 → RS K ρ1 H1 T → RE K ρ1 H1 η σ1 → OKS K ρ1 H1 E (k (.bk, η) T) D → D'.bk σ1 H1)
    (hc : ∀ η T (ρ1 : List Addr) (H1 : Hp) (σ1 : L2.St), r = .ok (.ct, η) T → Gr K ρ H ρ1 H1 → RS K ρ1 H1 T → RE K ρ1 H1 η σ1 → OKS K ρ1 H1 E (k (.ct, η) T) D → D'.ct σ1 H1)
    (hr : ∀ u η T (ρ1 : List Addr) (H1 : Hp) (v : V), r = .ok (.rt u, η) T → Gr K ρ H ρ1 H1 → RS K ρ1 H1 T → RV K ρ1 H1 u v → OKS K ρ1 H1 E (k (.rt u, η) T) D → D'.rt v H1) : OKS K ρ H E r D' := by
  cases r with
  | no => exact h
  | ok a T =>
    obtain ⟨f, η⟩ := a
    cases f with
    | nx => exact fun ρ1 H1 σ1 g s q => hn η T ρ1 H1 σ1 rfl g s q (OKS.gr h g)
    | bk => exact fun ρ1 H1 σ1 g s q => hb η T ρ1 H1 σ1 rfl g s q (OKS.gr h g)
    | ct => exact fun ρ1 H1 σ1 g s q => hc η T ρ1 H1 σ1 rfl g s q (OKS.gr h g)
    | rt u => exact fun ρ1 H1 v g s q => hr u η T ρ1 H1 v rfl g s q (OKS.gr h g)
  | ex e T => exact h
theorem Wr.refl {ws : List Nat} {σ : L2.St} : Wr ws σ σ := ⟨rfl, fun _ _ => rfl⟩
theorem Wr.trans {w1 w2 : List Nat} {σ σ1 σ2 : L2.St} (a : Wr w1 σ σ1) (b : Wr w2 σ1 σ2) : Wr (w1 ++ w2) σ σ2 :=
  ⟨b.1.trans a.1, fun j hj => by
    rw [List.mem_append, not_or] at hj
    rw [b.2 j hj.2, a.2 j hj.1]⟩
theorem Wr.set {i : Nat} {σ : L2.St} {v : V} : Wr [i] σ (σ.set i (some v)) :=
  ⟨by rw [List.length_set], fun j hj => by rw [List.getElem?_set_ne (fun e => hj (by rw [e]; exact List.mem_singleton.mpr rfl))]⟩
end
/-! ### combinators -/
def fSkip : FxS := fun η T => .ok (.nx, η) T
def fSeq (F G : FxS) : FxS := fun η T => (F η T).bind fun p T1 => match p.1 with
  | .nx => G p.2 T1
  | _ => .ok p T1
def fDrop (Fe : FxE) : FxS := fun η T => (Fe η T).bind fun _ T1 => .ok (.nx, η) T1
def fRet (Fe : FxE) : FxS := fun η T => (Fe η T).bind fun u T1 => .ok (.rt u, η) T1
def fRetN : FxS := fun η T => .ok (.rt .non, η) T
def fBrk : FxS := fun η T => .ok (.bk, η) T
def fCnt : FxS := fun η T => .ok (.ct, η) T
def fIf (Fc : FxT) (F G : FxS) : FxS := fun η T => (Fc η T).bind fun b T1 => if b = true then F η T1 else G η T1
def fSet (i : Nat) (Fe : FxE) : FxS := fun η T => (Fe η T).bind fun u T1 => .ok (.nx, η.set i (some u)) T1
def gNm (i : Nat) : U → Lo → M Lo := fun u η T => .ok (η.set i (some u)) T
def gNil : List U → Lo → M Lo := fun us η T => match us with
  | [] => .ok η T
  | _ => .no
def gCons (G : U → Lo → M Lo) (Gr : List U → Lo → M Lo) : List U → Lo → M Lo := fun us η T => match us with
  | u :: r => (G u η T).bind fun η1 T1 => Gr r η1 T1
  | [] => .no
def gUnp (n : Nat) (Gr : List U → Lo → M Lo) : U → Lo → M Lo := fun u η T => match u with
  | .tup xs => if xs.length = n then Gr xs η T else .no
  | _ => .no
def fAsg (Fe : FxE) (G : U → Lo → M Lo) : FxS := fun η T => (Fe η T).bind fun u T1 => (G u η T1).bind fun η1 T2 => .ok (.nx, η1) T2
def fPar2 (i j : Nat) (Fr : FxA) : FxS := fun η T => (Fr η T).bind fun us T1 => match us with
  | [u, w] => .ok (.nx, (η.set i (some u)).set j (some w)) T1
  | _ => .no
def fPar3 (i j l : Nat) (Fr : FxA) : FxS := fun η T => (Fr η T).bind fun us T1 => match us with
  | [u, w, z] => .ok (.nx, ((η.set i (some u)).set j (some w)).set l (some z)) T1
  | _ => .no
/-- o[i] = v -/
def gSetIt : U → U → U → Sto → Option Sto := fun o i v T => match o, i with
  | .ob k, .int n => match T[k]? with
    | some (.lst xs) => match ixN xs.length n with
      | some j => some (T.set k (.lst (xs.set j v)))
      | none => none
    | _ => none
  | _, _ => none
theorem gSetIt_some {o i v : U} {T T3 : Sto} (h : gSetIt o i v T = some T3) : ∃ (k : Nat) (n : Int) (xs : List U) (j : Nat), o = .ob k ∧ i = .int n ∧ T[k]? = some (.lst xs) ∧ ixN xs.length n = some j ∧ T3 = T.set k (.lst (xs.set j v)) := by
  unfold gSetIt at h
  split at h
  · split at h
    · split at h
      · cases h
        exact ⟨_, _, _, _, rfl, rfl, by assumption, by assumption, rfl⟩
      · cases h
    · cases h
  · cases h
def gSubT (Fo Fi : FxE) : U → Lo → M Lo := fun v η T => (Fo η T).bind fun o T1 => (Fi η T1).bind fun i T2 => match gSetIt o i v T2 with
  | some T3 => .ok η T3
  | none => .no
def fWhile : Nat → FxT → FxS → FxS
  | 0, _, _ => fun _ _ => .no
  | n + 1, Fc, Fb => fun η T => (Fc η T).bind fun b T1 => if b = true then (Fb η T1).bind fun p T2 => match p.1 with
    | .nx => fWhile n Fc Fb p.2 T2
    | .ct => fWhile n Fc Fb p.2 T2
    | .bk => .ok (.nx, p.2) T2
    | .rt u => .ok (.rt u, p.2) T2 else .ok (.nx, η) T1
/-- what is walked: the items, each from the store at its turn; what must hold at the end -/
structure ItF where
  its : List (Sto → Option U)
  fin : Sto → Bool
abbrev FxI := Lo → M ItF
def forN (G : U → Lo → M Lo) (Fb : FxS) (fin : Sto → Bool) : List (Sto → Option U) → FxS
  | [] => fun η T => if fin T = true then .ok (.nx, η) T else .no
  | f :: r => fun η T => match f T with
    | none => .no
    | some u => (G u η T).bind fun η1 T1 => (Fb η1 T1).bind fun p T2 => match p.1 with
      | .nx => forN G Fb fin r p.2 T2
      | .ct => forN G Fb fin r p.2 T2
      | .bk => .ok (.nx, p.2) T2
      | .rt u => .ok (.rt u, p.2) T2
def fFor (Fi : FxI) (G : U → Lo → M Lo) (Fb : FxS) : FxS := fun η T => (Fi η T).bind fun it T1 => forN G Fb it.fin it.its η T1
def wipeU : Lo → List Nat → Lo
  | η, [] => η
  | η, v :: vs => (wipeU η vs).set v none
def lcN (G : U → Lo → M Lo) (Ft : FxT) (Fe : FxE) (fin : Sto → Bool) (η : Lo) : List (Sto → Option U) → List U → M U
  | [], acc => fun T => if fin T = true then nw (.lst acc) T else .no
  | f :: r, acc => fun T => match f T with
    | none => .no
    | some u => (G u η T).bind fun η1 T1 => (Ft η1 T1).bind fun b T2 => if b = true then (Fe η1 T2).bind fun y T3 => if acc.length < 16777216 then lcN G Ft Fe fin η r (acc ++ [y]) T3 else .no else lcN G Ft Fe fin η r acc T2
def fLc (vs : List Nat) (Fi : FxI) (G : U → Lo → M Lo) (Ft : FxT) (Fe : FxE) : FxE := fun η T => (Fi η T).bind fun it T1 => lcN G Ft Fe it.fin (wipeU η vs) it.its [] T1
def fYes : FxT := fun _ T => .ok true T

section
variable {X : Cx} {E : XK} {st : Stmt} {rest : List Stmt} {e : Expr} {pos : Pos} {F G : FxS} {Fe : FxE} {Fc : FxT}
theorem fss_nil : FSs X E [] fSkip := ⟨_, pss_nil, fun _ _ _ _ _ _ s r h => h _ _ _ Gr.refl s r⟩
theorem fss_cons (h1 : FS X E st F) (h2 : FSs X E rest G) : FSs X E (st :: rest) (fSeq F G) := by
  obtain ⟨t, k1, q1⟩ := h1
  obtain ⟨u, k2, q2⟩ := h2
  refine ⟨_, pss_cons k1 k2, fun σ H ρ T η D s r h => ?_⟩
  refine q1 σ H ρ T η _ s r (OKS.seq h (fun η1 T1 ρ1 H1 σ1 _ g s1 r1 k => q2 σ1 H1 ρ1 T1 η1 D s1 r1 k) (fun η1 T1 ρ1 H1 σ1 _ g s1 r1 k => ?_) (fun η1 T1 ρ1 H1 σ1 _ g s1 r1 k => ?_) (fun u η1 T1 ρ1 H1 v _ g s1 r1 k => ?_))
  · exact k ρ1 H1 σ1 Gr.refl s1 r1
  · exact k ρ1 H1 σ1 Gr.refl s1 r1
  · exact k ρ1 H1 v Gr.refl s1 r1
theorem fss_one (h : FS X E st F) : FSs X E [st] F := let ⟨t, k, q⟩ := h; ⟨t, pss_one k, q⟩
theorem fs_pass : FS X E (.Pass pos) fSkip := ⟨_, ps_pass, fun _ _ _ _ _ _ s r h => h _ _ _ Gr.refl s r⟩
theorem fs_break : FS X E (.Break pos) fBrk := ⟨_, ps_break, fun _ _ _ _ _ _ s r h => h _ _ _ Gr.refl s r⟩
theorem fs_continue : FS X E (.Continue pos) fCnt := ⟨_, ps_continue, fun _ _ _ _ _ _ s r h => h _ _ _ Gr.refl s r⟩
theorem fs_doc {x j pos pos'} : FS X E (.Expr (.Constant (.str x) j pos) pos') fSkip := ⟨_, ps_doc, fun _ _ _ _ _ _ s r h => h _ _ _ Gr.refl s r⟩
theorem fs_expr (he : FE X E e Fe) (hs : swapsWith e none pos.line X.env = pure false := by rfl) : FS X E (.Expr e pos) (fDrop Fe) := by
  obtain ⟨t, k, q⟩ := he
  refine ⟨_, ps_expr k hs, fun σ H ρ T η D s r h => ?_⟩
  exact q σ H ρ T η _ s r (OK.mono (OKS.bind h) fun x H1 ⟨ρ1, T1, u, g1, s1, r1, k1⟩ => k1 _ _ _ Gr.refl s1 (r.gr g1))
theorem fs_ret (he : FE X E e Fe) : FS X E (.Return (some e) pos) (fRet Fe) := by
  obtain ⟨t, k, q⟩ := he
  refine ⟨_, ps_ret k, fun σ H ρ T η D s r h => ?_⟩
  exact q σ H ρ T η _ s r (OK.mono (OKS.bind h) fun x H1 ⟨ρ1, T1, u, g1, s1, r1, k1⟩ => k1 _ _ _ Gr.refl s1 r1)
theorem fs_retN : FS X E (.Return none pos) fRetN := ⟨_, ps_retN, fun _ _ _ _ _ _ s r h => h _ _ _ Gr.refl s .non⟩
theorem fs_if {c : Expr} {a b : List Stmt} (hc : FT X E c Fc) (ha : FSs X E a F) (hb : FSs X E b G) : FS X E (.If c a b pos) (fIf Fc F G) := by
  obtain ⟨t, k, q⟩ := hc
  obtain ⟨t1, k1, q1⟩ := ha
  obtain ⟨t2, k2, q2⟩ := hb
  refine ⟨_, ps_if k k1 k2, fun σ H ρ T η D s r h => ?_⟩
  refine q σ H ρ T η _ s r (OK.mono (OKS.bind h) fun x H1 ⟨ρ1, T1, u, g1, s1, r1, kk⟩ => ?_)
  cases r1
  cases x with
  | true => exact q1 σ H1 ρ1 T1 η D s1 (r.gr g1) kk
  | false => exact q2 σ H1 ρ1 T1 η D s1 (r.gr g1) kk
theorem fs_set {i : Nat} {x : Str} {pos' : Pos} (hN : X.N.Nodup) (hi : X.N[i]? = some x) (hx : Loc X.env.scope x) (he : FE X E e Fe) (hs : swapsWith e (some (.Name x pos')) pos.line X.env = pure false := by rfl)
    (hf : X.fn x = true ∨ X.env.scope.names.lookup x = some .local := by first | exact .inl rfl | exact .inr rfl | assumption) : FS X E (.Assign [.Name x pos'] e pos) (fSet i Fe) := by
  obtain ⟨t, k, q⟩ := he
  refine ⟨_, ps_set hN hi hx k hs hf, fun σ H ρ T η D s r h => ?_⟩
  exact q σ H ρ T η _ s r (OK.mono (OKS.bind h) fun x H1 ⟨ρ1, T1, u, g1, s1, r1, k1⟩ => k1 _ _ _ Gr.refl s1 ((r.gr g1).set i r1))
/-! ### targets -/
theorem fg_name {i : Nat} {x : Str} (hN : X.N.Nodup) (hi : X.N[i]? = some x) (hx : Loc X.env.scope x) (hf : X.fn x = true ∨ X.env.scope.names.lookup x = some .local := by first | exact .inl rfl | exact .inr rfl | assumption) : FG X E (.Name x pos) [i] (gNm i) :=
  ⟨_, pg_name hN hi hx hf, fun σ H ρ T η u v Q s r rv h => h ρ H _ Gr.refl s ⟨r.set i rv, Wr.set⟩⟩
theorem fgs_nil : FGs X E [] [] gNil := by
  refine ⟨_, pgs_nil, fun σ H ρ T η us vs Q s r rv h => ?_⟩
  cases rv with
  | nil => exact ⟨rfl, h ρ H σ Gr.refl s ⟨r, Wr.refl⟩⟩
  | cons _ _ => exact False.elim h
theorem fgs_cons {e : Expr} {es : List Expr} {w1 w2 : List Nat} {G : U → Lo → M Lo} {Gr' : List U → Lo → M Lo} (h1 : FG X E e w1 G) (h2 : FGs X E es w2 Gr') (hs : (assignEach (e :: es) X.env).map (·.2) = assign e X.env :: (assignEach es X.env).map (·.2) := by rfl) :
    FGs X E (e :: es) (w1 ++ w2) (gCons G Gr') := by
  obtain ⟨t, k, q⟩ := h1
  obtain ⟨t2, k2, q2⟩ := h2
  refine ⟨_, pgs_cons k k2 hs, fun σ H ρ T η us vs Q s r rv h => ?_⟩
  cases rv with
  | nil => exact False.elim h
  | @cons u v us vs ru rr =>
    refine ⟨v, vs, rfl, q σ H ρ T η u v _ s r ru (OK.mono (OK.bind h) fun σ1 H1 ⟨ρ1, T1, η1, g1, s1, ⟨r1, w1⟩, k1⟩ => ?_)⟩
    refine q2 σ1 H1 ρ1 T1 η1 us vs Q s1 r1 (rr.gr g1) ?_
    generalize hres : Gr' us η1 T1 = res at k1
    cases res with
    | no => exact k1
    | ok a T2 => exact fun ρ2 H2 σ2 g2 s2 ⟨r2, w2⟩ => k1 ρ2 H2 σ2 g2 s2 ⟨r2, w1.trans w2⟩
    | ex e T2 => exact k1
theorem fg_tup {es : List Expr} {k : Nat} {ws : List Nat} {G : List U → Lo → M Lo} {n : Nat} (hc : X.calm = true) (h : FGs X E es ws G) (hn : (assignEach es X.env).length = n := by rfl) (hst : (assignEach es X.env).findIdx? (·.1) = none := by rfl) :
    FG X E (.Tuple es k pos) ws (gUnp n G) := by
  obtain ⟨t, kk, q⟩ := h
  refine ⟨_, pg_tup hc kk hn hst, fun σ H ρ T η u v Q s r rv h => ?_⟩
  cases rv with
  | @tup a vs us sq rs =>
    have h : OK X.K ρ H E (fun ρ' H' η' σ' => RE X.K ρ' H' η' σ' ∧ Wr ws σ σ') (if us.length = n then G us η T else .no) Q := h
    split at h
    · rename_i hl
      exact ⟨a, vs, rfl, sq, by rw [← rs.length]; exact hl, q σ H ρ T η us vs Q s r rs h⟩
    · exact False.elim h
  | _ => exact False.elim h
theorem fg_sub {o i : Expr} {Fo Fi : FxE} (ho : FE X E o Fo) (hi : FE X E i Fi)
    (ha : ∀ v, assign (.Subscript o i pos) X.env v = (do
      let ov ← holding [v] (eval o X.env)
      let iv ← holding [v, ov] (eval i X.env)
      standAt pos
      holding [v, ov, iv] (setItem ov iv v)
      release [v, ov, iv] []) := by intro _; rfl) : FG X E (.Subscript o i pos) [] (gSubT Fo Fi) := by
  obtain ⟨t, k, q⟩ := ho
  obtain ⟨t2, k2, q2⟩ := hi
  refine ⟨_, pg_sub k k2 set_list ha, fun σ H ρ T η u v Q s r rv h => ?_⟩
  have h' := OK.bind (rel := rV X.K) h
  refine q σ H ρ T η _ s r (OK.mono h' fun x H1 ⟨ρ1, T1, uo, g1, s1, r1, k1⟩ => ?_)
  have k1' := OK.bind (rel := rV X.K) k1
  refine q2 σ H1 ρ1 T1 η _ s1 (r.gr g1) (OK.mono k1' fun y H2 ⟨ρ2, T2, ui, g2, s2, r2, kk⟩ => ?_)
  have rv2 := (rv.gr g1).gr g2
  have re2 := (r.gr g1).gr g2
  have r1' := r1.gr g2
  cases eT : gSetIt uo ui u T2 with
  | none => rw [eT] at kk; exact False.elim kk
  | some T3 =>
    rw [eT] at kk
    obtain ⟨c, n, xs, j, rfl, rfl, e1, e2, rfl⟩ := gSetIt_some eT
    cases r2
    cases r1' with
    | @ob _ a ea =>
      obtain ⟨a', p1, vs, f1, rs⟩ := s2.get e1
      rw [ea] at p1
      cases p1
      have g3 : Gr X.K ρ2 H2 ρ2 (upd H2 a (.lst (vs.set j v))) := Gr.put s2 ea
      exact ⟨a, vs, n, j, rfl, rfl, f1, by rw [← rs.length]; exact e2, kk ρ2 _ σ g3 (s2.put ea ⟨_, upd_same, (rs.set rv2 j).gr g3⟩) ⟨re2.gr g3, Wr.refl⟩⟩
theorem fs_asg {tg e : Expr} {ws : List Nat} {G : U → Lo → M Lo} (he : FE X E e Fe) (hg : FG X E tg ws G) (hs : swapsWithSole [tg] e pos.line X.env = pure false := by rfl) (hw : swappedStores [tg] e X.env = pure none := by rfl)
    (h1 : (assignEach [tg] X.env).map (·.2) = [assign tg X.env] := by rfl) : FS X E (.Assign [tg] e pos) (fAsg Fe G) := by
  obtain ⟨t, k, q⟩ := he
  obtain ⟨t2, k2, q2⟩ := hg
  refine ⟨_, ps_asg k k2 hs hw h1, fun σ H ρ T η D s r h => ?_⟩
  refine q σ H ρ T η _ s r (OK.mono (OKS.bind h) fun x H1 ⟨ρ1, T1, u, g1, s1, r1, kk⟩ => ?_)
  refine q2 σ H1 ρ1 T1 η u x _ s1 (r.gr g1) r1 (OK.mono (OKS.bind kk) fun σ2 H2 ⟨ρ2, T2, η2, g2, s2, ⟨r2, _⟩, k3⟩ => k3 _ _ _ Gr.refl s2 r2)
theorem fs_par2 {i j : Nat} {x y : Str} {a b : Expr} {Fr : FxA} {px py pt : Pos} {kt k2 pt2} (hc : X.calm = true) (hN : X.N.Nodup) (hi : X.N[i]? = some x) (hj : X.N[j]? = some y) (hij : i ≠ j)
    (hx : X.env.scope.names.lookup x = some .local) (hy : X.env.scope.names.lookup y = some .local) (ha : FA X E [a, b] Fr)
    (hw : swappedStores [.Tuple [.Name x px, .Name y py] kt pt] (.Tuple [a, b] k2 pt2) X.env = pure (some [x, y]) := by rfl)
    (hs : swapsWithSole [.Tuple [.Name x px, .Name y py] kt pt] (.Tuple [a, b] k2 pt2) pos.line X.env = pure false := by rfl) :
    FS X E (.Assign [.Tuple [.Name x px, .Name y py] kt pt] (.Tuple [a, b] k2 pt2) pos) (fPar2 i j Fr) := by
  obtain ⟨t, k, q⟩ := ha
  refine ⟨_, ps_par hc hN hi hj hij hx hy k hw hs, fun σ H ρ T η D s r h => ?_⟩
  refine q σ H ρ T η _ s r (OK.mono (OKS.bind h) fun xs H1 ⟨ρ1, T1, us, g1, s1, r1, kk⟩ => ?_)
  match us, xs, r1 with
  | [_, _], _, .cons r1 (.cons r2 .nil) => exact ⟨_, _, rfl, kk _ _ _ Gr.refl s1 (((r.gr g1).set i r1).set j r2)⟩
  | [], _, _ => exact False.elim kk
  | [_], _, _ => exact False.elim kk
  | _ :: _ :: _ :: _, _, _ => exact False.elim kk
theorem fs_par3 {i j l : Nat} {x y z : Str} {a b c : Expr} {Fr : FxA} {px py pz pt : Pos} {kt k2 pt2} (hc : X.calm = true) (hN : X.N.Nodup) (hi : X.N[i]? = some x) (hj : X.N[j]? = some y) (hl : X.N[l]? = some z) (hij : i ≠ j) (hil : i ≠ l) (hjl : j ≠ l)
    (hx : X.env.scope.names.lookup x = some .local) (hy : X.env.scope.names.lookup y = some .local) (hz : X.env.scope.names.lookup z = some .local) (ha : FA X E [a, b, c] Fr)
    (hw : swappedStores [.Tuple [.Name x px, .Name y py, .Name z pz] kt pt] (.Tuple [a, b, c] k2 pt2) X.env = pure (some [x, y, z]) := by rfl)
    (hs : swapsWithSole [.Tuple [.Name x px, .Name y py, .Name z pz] kt pt] (.Tuple [a, b, c] k2 pt2) pos.line X.env = pure false := by rfl) :
    FS X E (.Assign [.Tuple [.Name x px, .Name y py, .Name z pz] kt pt] (.Tuple [a, b, c] k2 pt2) pos) (fPar3 i j l Fr) := by
  obtain ⟨t, k, q⟩ := ha
  refine ⟨_, ps_par3 hc hN hi hj hl hij hil hjl hx hy hz k hw hs, fun σ H ρ T η D s r h => ?_⟩
  refine q σ H ρ T η _ s r (OK.mono (OKS.bind h) fun xs H1 ⟨ρ1, T1, us, g1, s1, r1, kk⟩ => ?_)
  match us, xs, r1 with
  | [_, _, _], _, .cons r1 (.cons r2 (.cons r3 .nil)) => exact ⟨_, _, _, rfl, kk _ _ _ Gr.refl s1 ((((r.gr g1).set i r1).set j r2).set l r3)⟩
  | [], _, _ => exact False.elim kk
  | [_], _, _ => exact False.elim kk
  | [_, _], _, _ => exact False.elim kk
  | _ :: _ :: _ :: _ :: _, _, _ => exact False.elim kk
/-! ### while -/
theorem fs_while (n : Nat) {c : Expr} {body : List Stmt} {Fb : FxS} (hp : PassesOwn (model X.prog X.w) X.A X.env X.xe) (hc : FT X E c Fc) (hb : FSs X E body Fb) : FS X E (.While c body [] pos) (fWhile n Fc Fb) := by
  obtain ⟨tc, k, q⟩ := hc
  obtain ⟨tb, k2, q2⟩ := hb
  refine ⟨_, ps_while hp k k2, fun σ H ρ T η D s r h => ?_⟩
  refine ⟨fun m σ H => ∃ ρ T η, RS X.K ρ H T ∧ RE X.K ρ H η σ ∧ OKS X.K ρ H E (fWhile m Fc Fb η T) D, ⟨n, ρ, T, η, s, r, h⟩, ?_⟩
  rintro m σ H ⟨ρ, T, η, s, r, h⟩
  cases m with
  | zero => exact False.elim h
  | succ m =>
    refine q σ H ρ T η _ s r (OK.mono (OKS.bind h) fun b H1 ⟨ρ1, T1, u, g1, s1, r1, kk⟩ => ?_)
    cases r1
    cases b with
    | false => exact kk _ _ _ Gr.refl s1 (r.gr g1)
    | true =>
      refine ⟨fun σ' H' => ∃ ρ T η, RS X.K ρ H' T ∧ RE X.K ρ H' η σ' ∧ OKS X.K ρ H' E (fWhile m Fc Fb η T) D, fun σ' H' w => ⟨m, Nat.lt_succ_self _, w⟩, ?_⟩
      refine q2 σ H1 ρ1 T1 η _ s1 (r.gr g1) (OKS.seq kk (fun η1 T1 ρ1 H1 σ1 _ g s1 r1 k => ⟨ρ1, T1, η1, s1, r1, k⟩) (fun η1 T1 ρ1 H1 σ1 _ g s1 r1 k => k _ _ _ Gr.refl s1 r1) (fun η1 T1 ρ1 H1 σ1 _ g s1 r1 k => ⟨ρ1, T1, η1, s1, r1, k⟩) (fun u η1 T1 ρ1 H1 v _ g s1 r1 k => k _ _ _ Gr.refl s1 r1))
end
end Lf


set_option Elab.async false
set_option linter.all false
set_option maxRecDepth 100000
set_option maxHeartbeats 4000000
/-! ## for, comprehensions, what is walked -/
namespace Lf
open PySem PySem.Spec L2

/-- the walk J yields the items of it, from this heap on -/
structure ItOk (K : PySem.W.Frag) (ρ₀ : List Addr) (H₀ : Hp) (it : ItF) (J : It) : Prop where
  go : ∀ (i : Nat) (f : Sto → Option U) (ρ : List Addr) (H : Hp) (T : Sto) (u : U), it.its[i]? = some f → Gr K ρ₀ H₀ ρ H → RS K ρ H T → f T = some u → J.go i H
  yl : ∀ (i : Nat) (f : Sto → Option U) (ρ : List Addr) (H : Hp) (T : Sto) (u : U) (x : V) (H' : Hp), it.its[i]? = some f → Gr K ρ₀ H₀ ρ H → RS K ρ H T → f T = some u → J.yld i H x H' → Gr K ρ H ρ H' ∧ RS K ρ H' T ∧ RV K ρ H' u x
  st : ∀ (ρ : List Addr) (H : Hp) (T : Sto), Gr K ρ₀ H₀ ρ H → RS K ρ H T → it.fin T = true → J.stop it.its.length H
abbrev rI (K : PySem.W.Frag) : Rel ItF It := fun ρ H it J => ItOk K ρ H it J
structure FI (X : Cx) (E : XK) (tg iter : Expr) (F : FxI) : Prop where
  ex : ∃ wi : TI, PI X tg iter wi ∧ ∀ (σ : L2.St) (H : Hp) (ρ : List Addr) (T : Sto) (η : Lo) (R : It → Hp → Prop), RS X.K ρ H T → RE X.K ρ H η σ → OK X.K ρ H E (rI X.K) (F η T) R → wi σ H R

theorem drop_cons {α : Type} {l : List α} {i : Nat} (h : i < l.length) : l.drop i = l[i] :: l.drop (i + 1) := List.drop_eq_getElem_cons h

section
variable {X : Cx} {E : XK} {pos : Pos}
theorem fs_for {tg iter : Expr} {body : List Stmt} {Fi : FxI} {ws : List Nat} {G : U → Lo → M Lo} {Fb : FxS} (hp : PassesOwn (model X.prog X.w) X.A X.env X.xe) (hc : X.calm = true) (hi : FI X E tg iter Fi) (hg : FG X E tg ws G) (hb : FSs X E body Fb)
    (hs : ∀ x, foldedSetIterable iter X.env x = pure x := by intro _; rfl) : FS X E (.For tg iter body [] pos) (fFor Fi G Fb) := by
  obtain ⟨wi, k1, q1⟩ := hi
  obtain ⟨g, k2, q2⟩ := hg
  obtain ⟨tb, k3, q3⟩ := hb
  refine ⟨_, ps_for hp hc k1 k2 k3 hs, fun σ H ρ T η D s r h => ?_⟩
  refine q1 σ H ρ T η _ s r (OK.mono (OKS.bind h) fun J H1 ⟨ρ1, T1, it, g1, s1, ok, kk⟩ => ?_)
  refine ⟨fun i m σ H => ∃ ρ T η, Gr X.K ρ1 H1 ρ H ∧ RS X.K ρ H T ∧ RE X.K ρ H η σ ∧ m = it.its.length - i ∧ i ≤ it.its.length ∧ OKS X.K ρ H E (forN G Fb it.fin (it.its.drop i) η T) D, ⟨it.its.length, ρ1, T1, η, Gr.refl, s1, r.gr g1, rfl, Nat.zero_le _, kk⟩, ?_⟩
  rintro i m σ H ⟨ρ, T, η, gg, s, r, rfl, hl, h⟩
  by_cases hlt : i < it.its.length
  · rw [drop_cons hlt] at h
    have hi : it.its[i]? = some it.its[i] := by simp [hlt]
    unfold forN at h
    cases ef : it.its[i] T with
    | none => rw [ef] at h; exact False.elim h
    | some u =>
      rw [ef] at h
      refine .inr ⟨ok.go i _ ρ H T u hi gg s ef, fun σ' H' => ∃ ρ T η, Gr X.K ρ1 H1 ρ H' ∧ RS X.K ρ H' T ∧ RE X.K ρ H' η σ' ∧ OKS X.K ρ H' E (forN G Fb it.fin (it.its.drop (i + 1)) η T) D, fun σ' H' ⟨ρ, T, η, a, b, c, d⟩ => ⟨it.its.length - (i + 1), by omega, ρ, T, η, a, b, c, rfl, hlt, d⟩, fun x H' y => ?_⟩
      obtain ⟨g2, s2, rv⟩ := ok.yl i _ ρ H T u x H' hi gg s ef y
      refine q2 σ H' ρ T η u x _ s2 (r.gr g2) rv (OK.mono (OKS.bind (OKS.gr h g2)) fun σ3 H3 ⟨ρ3, T3, η3, g3, s3, ⟨r3, _⟩, k3⟩ => ?_)
      have up : Gr X.K ρ1 H1 ρ3 H3 := gg.trans (g2.trans g3)
      refine q3 σ3 H3 ρ3 T3 η3 _ s3 r3 (OKS.seq k3 (fun η1 T1 ρ1 H1 σ1 _ g s1 r1 k => ⟨ρ1, T1, η1, up.trans g, s1, r1, k⟩) (fun η1 T1 ρ1 H1 σ1 _ g s1 r1 k => k _ _ _ Gr.refl s1 r1) (fun η1 T1 ρ1 H1 σ1 _ g s1 r1 k => ⟨ρ1, T1, η1, up.trans g, s1, r1, k⟩) (fun u η1 T1 ρ1 H1 v _ g s1 r1 k => k _ _ _ Gr.refl s1 r1))
  · have e : i = it.its.length := by omega
    subst e
    rw [List.drop_length] at h
    have h : OKS X.K ρ H E (if it.fin T = true then .ok (.nx, η) T else .no) D := h
    split at h
    · rename_i hf
      exact .inl ⟨ok.st ρ H T gg s hf, h _ _ _ Gr.refl s r⟩
    · exact False.elim h

/-! ### comprehensions -/
structure FTs (X : Cx) (E : XK) (ifs : List Expr) (F : FxT) : Prop where
  ex : ∃ t : TT, PTs X ifs t ∧ ∀ (σ : L2.St) (H : Hp) (ρ : List Addr) (T : Sto) (η : Lo) (Q : Bool → Hp → Prop), RS X.K ρ H T → RE X.K ρ H η σ → OK X.K ρ H E rB (F η T) Q → t σ H Q
theorem fts_nil : FTs X E [] fYes := ⟨_, pts_nil, fun _ _ _ _ _ _ s _ h => okB s h⟩
theorem fts_one {c : Expr} {F : FxT} (h : FT X E c F) : FTs X E [c] F := let ⟨t, k, q⟩ := h; ⟨t, pts_one k, q⟩
theorem wipe_at : ∀ {vs : List Nat} {σ : L2.St} {j : Nat}, j ∈ vs → j < σ.length → (wipe σ vs)[j]? = some none
  | v :: vs, σ, j, hj, hl => by
    unfold wipe
    by_cases e : v = j
    · subst e
      rw [List.getElem?_set_self (by rw [wipe_length]; exact hl)]
    · rw [List.getElem?_set_ne e]
      rcases List.mem_cons.mp hj with h | h
      · exact absurd h.symm e
      · exact wipe_at h hl
theorem wipe_ext {vs ws : List Nat} {σ σ' : L2.St} (h : Wr ws (wipe σ vs) σ') (hw : ∀ j ∈ ws, j ∈ vs) : wipe σ' vs = wipe σ vs := by
  apply List.ext_getElem?
  intro j
  have hlen : σ'.length = σ.length := by rw [h.1, wipe_length]
  by_cases hj : j ∈ vs
  · by_cases hl : j < σ.length
    · rw [wipe_at hj hl, wipe_at hj (by rw [hlen]; exact hl)]
    · rw [List.getElem?_eq_none (by rw [wipe_length]; omega), List.getElem?_eq_none (by rw [wipe_length]; omega)]
  · rw [wipe_out hj, h.2 j (fun k => hj (hw j k))]
theorem RE.wipe {K : PySem.W.Frag} {ρ : List Addr} {H : Hp} {η : Lo} {σ : L2.St} (r : RE K ρ H η σ) : ∀ vs : List Nat, RE K ρ H (wipeU η vs) (wipe σ vs)
  | [] => r
  | v :: vs => by
    have ih := RE.wipe r vs
    unfold wipeU L2.wipe
    refine ⟨by rw [List.length_set, List.length_set]; exact ih.len, fun i u e => ?_⟩
    by_cases hv : v = i
    · subst hv
      by_cases hl : v < (wipeU η vs).length
      · rw [List.getElem?_set_self hl] at e; cases e
      · rw [List.getElem?_eq_none (by rw [List.length_set]; omega)] at e; cases e
    · rw [List.getElem?_set_ne hv] at e ⊢
      exact ih.at_ i u e
/-- an object that is there is taken into the store -/
theorem RS.adopt {K : PySem.W.Frag} {ρ : List Addr} {H : Hp} {T : Sto} (s : RS K ρ H T) {p : Addr} {o : O} (np : p ∉ ρ) (g : Gr K ρ H (ρ ++ [p]) H ∨ True) (r : RO K (ρ ++ [p]) H o p) (mono : ∀ o a, RO K ρ H o a → RO K (ρ ++ [p]) H o a) : RS K (ρ ++ [p]) H (T ++ [o]) := by
  refine ⟨by rw [List.length_append, List.length_append, s.len]; rfl, ?_, fun i u a e1 e2 => ?_⟩
  · rw [List.nodup_append]
    exact ⟨s.nd, by simp, fun a ha b hb => by rw [List.mem_singleton.mp hb]; rintro rfl; exact np ha⟩
  · by_cases hi : i < ρ.length
    · rw [List.getElem?_append_left hi] at e2
      rw [List.getElem?_append_left (by rw [← s.len]; exact hi)] at e1
      exact mono _ _ (s.at_ i u a e1 e2)
    · have hl : i = ρ.length := by
        have := (List.getElem?_eq_some_iff.mp e2).1
        rw [List.length_append, List.length_singleton] at this
        omega
      subst hl
      rw [List.getElem?_append_right (Nat.le_refl _), Nat.sub_self] at e2
      rw [s.len, List.getElem?_append_right (Nat.le_refl _), Nat.sub_self] at e1
      cases e1
      cases e2
      exact r
theorem RO.more {K : PySem.W.Frag} {ρ : List Addr} {H : Hp} {o : O} {a p : Addr} (h : RO K ρ H o a) : RO K (ρ ++ [p]) H o a := by
  have hp : ∀ (i : Nat) (a : Addr), ρ[i]? = some a → (ρ ++ [p])[i]? = some a := fun i a e => by rw [List.getElem?_append_left (List.getElem?_eq_some_iff.mp e).1]; exact e
  cases o with
  | lst xs => obtain ⟨vs, e1, r⟩ := h; exact ⟨vs, e1, r.mono hp (fun _ _ q => q) fun _ _ q => q⟩
  | dic kvs =>
    rcases h with ⟨ks, e1, r⟩ | ⟨ks, e1, r⟩
    · exact .inl ⟨ks, e1, Paired.mapP r fun _ _ z => ⟨z.1, z.2.mono hp (fun _ _ q => q) fun _ _ q => q⟩⟩
    · exact .inr ⟨ks, e1, Paired.mapP r fun _ _ z => ⟨z.1, z.2.mono hp (fun _ _ q => q) fun _ _ q => q⟩⟩
  | ins C fs => obtain ⟨dx, gs, e1, r⟩ := h; exact ⟨dx, gs, e1, Paired.mapP r fun _ _ z => ⟨z.1, z.2.mono hp (fun _ _ q => q) fun _ _ q => q⟩⟩
  | exc C fs => obtain ⟨d, gs, e1, e2, r⟩ := h; exact ⟨d, gs, e1, e2, Paired.mapP r fun _ _ z => ⟨z.1, z.2.mono hp (fun _ _ q => q) fun _ _ q => q⟩⟩

/-- one reading for all contexts -/
theorem PE.weak {X : Cx} {e : Expr} {t t' : TE} (h : PE X e t) (i : ∀ σ H Q, t' σ H Q → t σ H Q) : PE X e t' := ⟨fun pins s σ H Q I q => h.run pins s σ H Q I (i _ _ _ q)⟩
theorem PTs.weak {X : Cx} {ifs : List Expr} {t t' : TT} (h : PTs X ifs t) (i : ∀ σ H Q, t' σ H Q → t σ H Q) : PTs X ifs t' := ⟨fun pins s σ H Q I q => h.run pins s σ H Q I (i _ _ _ q)⟩
theorem PG.weak {X : Cx} {e : Expr} {t t' : TG} (h : PG X e t) (i : ∀ v σ H Q, t' v σ H Q → t v σ H Q) : PG X e t' := ⟨fun pins s σ H v u Q I r q => h.run pins s σ H v u Q I r (i _ _ _ _ q)⟩
abbrev BX : Type := Shared × Hp × Addr × List (Str × Addr) × List Addr
abbrev bx (X : Cx) (scope : Scope) (p : BX) : Cx := X.blk p.1 p.2.1 scope (compEnvC scope p.2.2.2.1 p.2.2.1 X.env) p.2.2.2.2

end
theorem RO.mono {K : PySem.W.Frag} {ρ ρ' : List Addr} {H H' : Hp} {o : O} {a : Addr} (h : RO K ρ H o a) (h1 : ∀ (i : Nat) (a : Addr), ρ[i]? = some a → ρ'[i]? = some a) (h2 : ∀ a vs, SqT K H a vs → SqT K H' a vs) (h3 : ∀ a vs, RF K H a vs → RF K H' a vs) (h4 : ∀ a gs, H a = some (.xd gs) → H' a = some (.xd gs)) (e : H' a = H a) : RO K ρ' H' o a := by
  cases o with
  | lst xs => obtain ⟨vs, e1, r⟩ := h; exact ⟨vs, e.trans e1, r.mono h1 h2 h3⟩
  | dic kvs =>
    rcases h with ⟨ks, e1, r⟩ | ⟨ks, e1, r⟩
    · exact .inl ⟨ks, e.trans e1, Paired.mapP r fun _ _ z => ⟨z.1, z.2.mono h1 h2 h3⟩⟩
    · exact .inr ⟨ks, e.trans e1, Paired.mapP r fun _ _ z => ⟨z.1, z.2.mono h1 h2 h3⟩⟩
  | ins C fs => obtain ⟨dx, gs, e1, r⟩ := h; exact ⟨dx, gs, e.trans e1, Paired.mapP r fun _ _ z => ⟨z.1, z.2.mono h1 h2 h3⟩⟩
  | exc C fs => obtain ⟨d, gs, e1, e2, r⟩ := h; exact ⟨d, gs, e.trans e1, h4 d gs e2, Paired.mapP r fun _ _ z => ⟨z.1, z.2.mono h1 h2 h3⟩⟩
/-- an object beside the store is changed -/
theorem RS.off {K : PySem.W.Frag} {ρ : List Addr} {H : Hp} {T : Sto} (s : RS K ρ H T) {p : Addr} {x : HO} (np : p ∉ ρ) (l : ∃ y, H p = some y ∧ Live y) : RS K ρ (upd H p x) T :=
  ⟨s.len, s.nd, fun i o a e1 e2 => (s.at_ i o a e1 e2).mono (fun _ _ e => e) (fun _ _ q => sq_upd (.inr l) q) (fun _ _ q => rf_upd (.inr l) q) (fun _ _ q => xd_upd (.inr l) q) (upd_ne fun z => np (by rw [← z]; exact List.mem_of_getElem? e2))⟩
theorem OK.bindG {K : PySem.W.Frag} {ρ₀ ρ : List Addr} {H₀ H : Hp} {E : XK} {α β γ δ : Type} {rel : Rel α β} {rel2 : Rel γ δ} {r : R α} {k : α → M γ} {Q : δ → Hp → Prop} (h : OK K ρ₀ H₀ E rel2 (r.bind k) Q) (g : Gr K ρ₀ H₀ ρ H) :
    OK K ρ H E rel r (fun b H1 => ∃ (ρ1 : List Addr) (T1 : Sto) (a : α), Gr K ρ H ρ1 H1 ∧ RS K ρ1 H1 T1 ∧ rel ρ1 H1 a b ∧ OK K ρ₀ H₀ E rel2 (k a T1) Q) := by
  cases r with
  | no => exact h
  | ok a T => exact fun ρ1 H1 b g1 s q => ⟨ρ1, T, a, g1, s, q, h⟩
  | ex e T => exact XR.gr h g
theorem Gr.keepD {K : PySem.W.Frag} {ρ ρ' : List Addr} {H H' : Hp} {D : Addr} {x : HO} (g : Gr K ρ H ρ' H') (m : D ∉ ρ) (h : H D = some x) : D ∉ ρ' ∧ H' D = some x :=
  ⟨(fun z => by
    have := g.nw D z m
    rw [h] at this
    cases this), g.kp D x m h⟩
/-- from before the new list D was laid, on to a heap in which D is changed -/
theorem Gr.over {K : PySem.W.Frag} {ρ₀ ρ : List Addr} {H₀ H : Hp} {D : Addr} {x y : HO} (g : Gr K ρ₀ H₀ ρ H) (nD : H₀ D = none) (hD : H D = some y) (l : Live y) : Gr K ρ₀ H₀ ρ (upd H D x) :=
  ⟨g.pre, fun a vs q => sq_upd (.inr ⟨y, hD, l⟩) (g.sq a vs q), fun a vs q => rf_upd (.inr ⟨y, hD, l⟩) (g.rf a vs q), fun a o n q => by
    rw [upd_ne (ne_of_none q nD)]
    exact g.kp a o n q, g.nw, fun a gs q => xd_upd (.inr ⟨y, hD, l⟩) (g.xd a gs q)⟩
theorem fe_lc {X : Cx} {E : XK} {elt tg iter : Expr} {ifs : List Expr} {scope : Scope} {own : List (Str × Nat)} {ws : List Nat} {Fi : FxI} {G : U → Lo → M Lo} {Ft : FxT} {Fe : FxE} (hc : X.calm = true) (hN : X.N.Nodup) (hi : FI X E tg iter Fi) (hok : BlkOk X.N X.env.scope scope own)
    (hw : ∀ j ∈ ws, j ∈ own.map (·.2)) (hg : ∀ p : BX, FG (bx X scope p) E tg ws G) (ht : ∀ p : BX, FTs (bx X scope p) E ifs Ft) (he : ∀ p : BX, FE (bx X scope p) E elt Fe) (hs : ∀ x, foldedSetIterable iter X.env x = pure x := by intro _; rfl) :
    ∃ t : TE, (∀ {pos : Pos}, PE X (.ListComp elt [⟨tg, iter, ifs, 0⟩] scope pos) t) ∧ (∀ {i : Nat} {y : Str} {py : Pos} {pos spos : Pos}, X.N[i]? = some y → X.env.scope.names.lookup y = some .local → swapsWith (.ListComp elt [⟨tg, iter, ifs, 0⟩] scope pos) (some (.Name y py)) spos.line X.env = pure true →
      PS X (.Assign [.Name y py] (.ListComp elt [⟨tg, iter, ifs, 0⟩] scope pos) spos) (tAsg t (gName i))) ∧
    ∀ (σ : L2.St) (H : Hp) (ρ : List Addr) (T : Sto) (η : Lo) (Q : V → Hp → Prop), RS X.K ρ H T → RE X.K ρ H η σ → OK X.K ρ H E (rV X.K) (fLc (own.map (·.2)) Fi G Ft Fe η T) Q → t σ H Q := by
  obtain ⟨wi, k1, q1⟩ := hi
  obtain ⟨fg, hfg⟩ := Classical.axiomOfChoice fun p : BX => (hg p).ex
  obtain ⟨ft, hft⟩ := Classical.axiomOfChoice fun p : BX => (ht p).ex
  obtain ⟨fe, hfe⟩ := Classical.axiomOfChoice fun p : BX => (he p).ex
  refine ⟨tLc wi (fun v σ H Q => ∀ p, fg p v σ H Q) (fun σ H Q => ∀ p, ft p σ H Q) (fun σ H Q => ∀ p, fe p σ H Q) (own.map (·.2)),
    pe_lc hc hN k1 hok (fun s H C cl fp => PG.weak (hfg (s, H, C, cl, fp)).1 fun _ _ _ _ q => q _) (fun s H C cl fp => PTs.weak (hft (s, H, C, cl, fp)).1 fun _ _ _ q => q _) (fun s H C cl fp => PE.weak (hfe (s, H, C, cl, fp)).1 fun _ _ _ q => q _) hs,
    fun {i y py pos spos} hy hyl hsw => ps_setLc hc hN hy hyl hsw k1 hok (fun s H C cl fp => PG.weak (hfg (s, H, C, cl, fp)).1 fun _ _ _ _ q => q _) (fun s H C cl fp => PTs.weak (hft (s, H, C, cl, fp)).1 fun _ _ _ q => q _) (fun s H C cl fp => PE.weak (hfe (s, H, C, cl, fp)).1 fun _ _ _ q => q _) hs, fun σ H ρ T η Q s r h => ?_⟩
  refine q1 σ H ρ T η _ s r (OK.mono (OK.bind h) fun J H1 ⟨ρ1, T1, it, g1, s1, ok, kk⟩ => ?_)
  intro D nD
  have r1 := (r.gr g1).wipe (own.map (·.2))
  refine ⟨fun i m H => ∃ ρ T acc vs, Gr X.K ρ1 H1 ρ H ∧ RS X.K ρ H T ∧ D ∉ ρ ∧ H D = some (.lst vs) ∧ RVs X.K ρ H acc vs ∧ m = it.its.length - i ∧ i ≤ it.its.length ∧ OK X.K ρ1 H1 E (rV X.K) (lcN G Ft Fe it.fin (wipeU η (own.map (·.2))) (it.its.drop i) acc T) Q,
    ⟨it.its.length, ρ1, T1, [], [], Gr.fill nD, s1.fill nD, (fun z => by
      obtain ⟨y, hy, _⟩ := s1.live z
      rw [nD] at hy
      cases hy), upd_same, .nil, rfl, Nat.zero_le _, kk⟩, ?_⟩
  rintro i m H ⟨ρ, T, acc, vs, g, s, mD, hD, rs, rfl, hl, h⟩
  by_cases hlt : i < it.its.length
  · rw [drop_cons hlt] at h
    have hi : it.its[i]? = some it.its[i] := by simp [hlt]
    unfold lcN at h
    cases ef : it.its[i] T with
    | none => rw [ef] at h; exact False.elim h
    | some u =>
      rw [ef] at h
      refine .inr ⟨ok.go i _ ρ H T u hi g s ef, fun H => ∃ ρ T acc vs, Gr X.K ρ1 H1 ρ H ∧ RS X.K ρ H T ∧ D ∉ ρ ∧ H D = some (.lst vs) ∧ RVs X.K ρ H acc vs ∧ OK X.K ρ1 H1 E (rV X.K) (lcN G Ft Fe it.fin (wipeU η (own.map (·.2))) (it.its.drop (i + 1)) acc T) Q,
        fun H' ⟨ρ, T, acc, vs, a, b, c, d, e, f⟩ => ⟨it.its.length - (i + 1), by omega, ρ, T, acc, vs, a, b, c, d, e, rfl, hlt, f⟩, fun x H' y => ?_⟩
      obtain ⟨g2, s2, rv⟩ := ok.yl i _ ρ H T u x H' hi g s ef y
      obtain ⟨mD2, hD2⟩ := g2.keepD mD hD
      intro p
      refine (hfg p).2 _ H' ρ T _ u x _ s2 ((r1.gr g).gr g2) rv (OK.mono (OK.bindG h (g.trans g2)) fun σ3 H3 ⟨ρ3, T3, η3, g3, s3, ⟨r3, w3⟩, k3⟩ => ⟨wipe_ext w3 hw, ?_⟩)
      obtain ⟨mD3, hD3⟩ := g3.keepD mD2 hD2
      intro p
      refine (hft p).2 _ H3 ρ3 T3 η3 _ s3 r3 (OK.mono (OK.bindG k3 (g.trans (g2.trans g3))) fun b H4 ⟨ρ4, T4, b', g4, s4, e4, k4⟩ => ?_)
      cases e4
      obtain ⟨mD4, hD4⟩ := g4.keepD mD3 hD3
      cases b with
      | false => exact ⟨ρ4, T4, acc, vs, g.trans (g2.trans (g3.trans g4)), s4, mD4, hD4, ((rs.gr g2).gr g3).gr g4, k4⟩
      | true =>
        intro p
        refine (hfe p).2 _ H4 ρ4 T4 η3 _ s4 (r3.gr g4) (OK.mono (OK.bindG k4 (g.trans (g2.trans (g3.trans g4)))) fun z H5 ⟨ρ5, T5, uz, g5, s5, r5, k5⟩ => ?_)
        obtain ⟨mD5, hD5⟩ := g5.keepD mD4 hD4
        have rs5 := (((rs.gr g2).gr g3).gr g4).gr g5
        split at k5
        · rename_i hz
          have go := Gr.over (x := .lst (vs ++ [z])) (g.trans (g2.trans (g3.trans (g4.trans g5)))) nD hD5 trivial
          refine ⟨vs, hD5, by rw [sz16, ← rs5.length]; exact hz, ρ5, T5, acc ++ [uz], vs ++ [z], go, s5.off mD5 ⟨_, hD5, trivial⟩, mD5, upd_same, ?_, k5⟩
          exact (rs5.append (.cons r5 .nil)).mono (fun _ _ e => e) (fun _ _ q => sq_upd (.inr ⟨_, hD5, trivial⟩) q) (fun _ _ q => rf_upd (.inr ⟨_, hD5, trivial⟩) q)
        · exact False.elim k5
  · have e : i = it.its.length := by omega
    subst e
    rw [List.drop_length] at h
    have h : OK X.K ρ1 H1 E (rV X.K) (if it.fin T = true then nw (.lst acc) T else .no) Q := h
    split at h
    · rename_i hf
      refine .inl ⟨ok.st ρ H T g s hf, ?_⟩
      refine h (ρ ++ [D]) H (.ref D) ⟨fun i a e => by rw [List.getElem?_append_left (List.getElem?_eq_some_iff.mp (g.pre i a e)).1]; exact g.pre i a e, g.sq, g.rf, g.kp, fun a ha n => ?_, g.xd⟩ ?_ ?_
      · rcases List.mem_append.mp ha with ha | ha
        · exact g.nw a ha n
        · rw [List.mem_singleton.mp ha]; exact nD
      · exact s.adopt mD (.inr trivial) (RO.more ⟨vs, hD, rs⟩) fun _ _ q => q.more
      · exact .ob (by rw [← s.len, List.getElem?_append_right (Nat.le_refl _), Nat.sub_self]; rfl)
    · exact False.elim h
section
variable {X : Cx} {E : XK} {elt tg iter : Expr} {ifs : List Expr} {scope : Scope} {own : List (Str × Nat)} {ws : List Nat} {Fi : FxI} {G : U → Lo → M Lo} {Ft : FxT} {Fe : FxE}
theorem fe_comp {pos : Pos} (hc : X.calm = true) (hN : X.N.Nodup) (hok : BlkOk X.N X.env.scope scope own) (hi : FI X E tg iter Fi)
    (hw : ∀ j ∈ ws, j ∈ own.map (·.2)) (hg : ∀ p : BX, FG (bx X scope p) E tg ws G) (ht : ∀ p : BX, FTs (bx X scope p) E ifs Ft) (he : ∀ p : BX, FE (bx X scope p) E elt Fe) (hs : ∀ x, foldedSetIterable iter X.env x = pure x := by intro _; rfl) :
    FE X E (.ListComp elt [⟨tg, iter, ifs, 0⟩] scope pos) (fLc (own.map (·.2)) Fi G Ft Fe) := by
  obtain ⟨t, h1, _, h3⟩ := fe_lc hc hN hi hok hw hg ht he hs
  exact ⟨t, h1, h3⟩
theorem fs_setLc {i : Nat} {y : Str} {py pos spos : Pos} (hc : X.calm = true) (hN : X.N.Nodup) (hy : X.N[i]? = some y) (hyl : X.env.scope.names.lookup y = some .local) (hsw : swapsWith (.ListComp elt [⟨tg, iter, ifs, 0⟩] scope pos) (some (.Name y py)) spos.line X.env = pure true) (hok : BlkOk X.N X.env.scope scope own) (hi : FI X E tg iter Fi)
    (hw : ∀ j ∈ ws, j ∈ own.map (·.2)) (hg : ∀ p : BX, FG (bx X scope p) E tg ws G) (ht : ∀ p : BX, FTs (bx X scope p) E ifs Ft) (he : ∀ p : BX, FE (bx X scope p) E elt Fe) (hs : ∀ x, foldedSetIterable iter X.env x = pure x := by intro _; rfl) :
    FS X E (.Assign [.Name y py] (.ListComp elt [⟨tg, iter, ifs, 0⟩] scope pos) spos) (fSet i (fLc (own.map (·.2)) Fi G Ft Fe)) := by
  obtain ⟨t, _, h2, h3⟩ := fe_lc hc hN hi hok hw hg ht he hs
  refine ⟨_, h2 hy hyl hsw, fun σ H ρ T η D s r h => ?_⟩
  exact h3 σ H ρ T η _ s r (OK.mono (OKS.bind h) fun x H1 ⟨ρ1, T1, u, g1, s1, r1, k1⟩ => k1 _ _ _ Gr.refl s1 ((r.gr g1).set i r1))
end
end Lf


set_option Elab.async false
set_option linter.all false
set_option maxRecDepth 100000
set_option maxHeartbeats 4000000
/-! ## defs and their calls -/
namespace Lf
open PySem PySem.Spec L2
open PyProof.Rows (envOfC)

/-- a def at f does what g tells, over any store -/
structure FnG (P : Program) (w : World) (K : PySem.W.Frag) (mg : Str → Option Value) (base : Heap) (C : CXT) (k : Nat) (f : Addr) (fd : FuncData) (ps : List Str) (g : List U → M U) : Prop where
  run : ∀ (A : Around) (fr : List Env) (s : Shared) (H : Hp) (args : Args) (ws : List Value) (vs : List V) (us : List U) (ρ : List Addr) (T : Sto) (Q : VK) (E : XK),
    Room k A → A.guards = some [] → Env0 P w K mg base A fr s H → BindsTo s fd args (ps.zip ws) → Vals vs ws → RS K ρ H T → RVs K ρ H us vs → us.length = ps.length →
    OK K ρ H E (rV K) (g us T) Q → codeAny (model P w) A (.call (.ref f) args) (CR C fr P w H s Q E) s
theorem FnG.mono {P : Program} {w : World} {K : PySem.W.Frag} {mg : Str → Option Value} {base : Heap} {C : CXT} {j k : Nat} {f : Addr} {fd : FuncData} {ps : List Str} {g : List U → M U} (F : FnG P w K mg base C j f fd ps g) (h : j ≤ k) : FnG P w K mg base C k f fd ps g :=
  ⟨fun A fr s H args ws vs us ρ T Q E hr => F.run A fr s H args ws vs us ρ T Q E (hr.mono h)⟩
/-- a def's value: its body from its parameters -/
def gDef (n : Nat) (F : FxS) : List U → M U := fun us T => (F (us.map some ++ List.replicate (n - us.length) none) T).bind fun p T1 => match p.1 with
  | .rt u => .ok u T1
  | .nx => .ok .non T1
  | _ => .no
theorem FSs.nox {X : Cx} {E : XK} {st : List Stmt} {F : FxS} (h : FSs X.nox E st F) : FSs X E st F := let ⟨t, k, q⟩ := h; ⟨t, k.nox, q⟩
theorem re_start {K : PySem.W.Frag} {ρ : List Addr} {H : Hp} {us : List U} {vs : List V} {N : List Str} (r : RVs K ρ H us vs) : RE K ρ H (us.map some ++ List.replicate (N.length - us.length) none) (L2.start N vs) := by
  have hl := r.length
  refine ⟨?_, fun i u e => ?_⟩
  · unfold L2.start
    rw [List.length_append, List.length_append, List.length_map, List.length_map, List.length_replicate, List.length_replicate, hl]
  · by_cases hi : i < us.length
    · rw [List.getElem?_append_left (by rw [List.length_map]; exact hi), List.getElem?_map] at e
      cases q : us[i]? with
      | none => rw [q] at e; cases e
      | some z =>
        rw [q] at e
        cases e
        obtain ⟨v, h1, h2⟩ := r.get q
        refine ⟨v, ?_, h2⟩
        unfold L2.start
        rw [List.getElem?_append_left (by rw [List.length_map, ← hl]; exact hi), List.getElem?_map, h1]
        rfl
    · rw [List.getElem?_append_right (by rw [List.length_map]; omega), List.getElem?_replicate] at e
      split at e <;> cases e
theorem fnG_of {C : CXT} {P : Program} {w : World} {K : PySem.W.Frag} {mg : Str → Option Value} {base : Heap} {k : Nat} {f : Addr} {fd : FuncData} {name qual : Str} {params : Arguments} {body : List Stmt} {scope : Scope} {dvs : List V} {kws : List (Str × V)} {N ps : List Str} {F : FxS}
    (D : FunD K name qual params body scope dvs kws f fd) (S : FnScope N ps scope)
    (hb : ∀ (cv : Value) (A : Around) (fr : List Env) (s : Shared) (H : Hp) (E : XK), Room k (A.deeper (envOfC qual scope s.heap.objs.size f cv)) → A.guards = some [] → FSs (cxOf C P w K mg base N qual scope f cv A fr s H E) E body F) :
    FnG P w K mg base C (k + 1) f fd ps (gDef N.length F) := by
  obtain ⟨oc, od, dV, kV, doc, pm, an, cv, ct, osl, rfl, lk, hcd, _, _⟩ := D.ex
  constructor
  intro A fr s H args ws vs us ρ T Q E room gd e0 bd rv rs ru lu hq
  have lv : vs.length = ps.length := by rw [← ru.length]; exact lu
  have inK : K.In s.heap := e0.mod.kin.keeps fun b o e => (e0.bs b o e).1
  have nolim : s.heap.NoLimit := e0.mod.nolimit.keeps fun b o e => (e0.bs b o e).1
  have kinds : ∀ y ∈ ps.zip ws, scope.names.lookup y.1 = some .local ∨ (scope.names.lookup y.1 = some .cell ∧ ((cellsFrom (s.heap.objs.size + 1) scope.names []).lookup y.1).isSome = true) := by
    rintro ⟨n, v⟩ hy
    rcases S.par n (List.of_mem_zip hy).1 with q | q
    · exact Or.inl q
    · exact Or.inr ⟨q, PySem.W.cellsFrom_some _ _ _ (Or.inl q)⟩
  refine codeAny_call_function room.depth (inK _ _ lk) rfl S.co S.gen rfl (PySem.W.codeRec_of inK hcd) (bd _ _ _ _ ?_)
  refine wpAny_newFunctionEnv_cells S.kind kinds fun env he s1 x => ?_
  subst he
  refine ⟨nolim.keeps x.toInCall.keep, codeAny_func ?_⟩
  obtain ⟨t, ht, q⟩ := hb cv A fr s H E (room.deeper _) gd
  have I := inv_start (CX := C) (E := E) S room.hd e0 lv rv x
  have mid : OKS K ρ H E (F (us.map some ++ List.replicate (N.length - us.length) none) T) { nx := fun _ H' => Q .non H', rt := Q } := by
    have hq : OK K ρ H E (rV K) ((F (us.map some ++ List.replicate (N.length - us.length) none) T).bind fun p T1 => match p.1 with
      | .rt u => .ok u T1
      | .nx => .ok .non T1
      | _ => .no) Q := hq
    generalize F (us.map some ++ List.replicate (N.length - us.length) none) T = r at hq
    cases r with
    | no => exact hq
    | ex e T1 => exact hq
    | ok p T1 =>
      obtain ⟨fl, η⟩ := p
      cases fl with
      | nx => exact fun ρ1 H1 σ1 g s1 r1 => hq ρ1 H1 .non g s1 .non
      | rt u => exact fun ρ1 H1 v g s1 r1 => hq ρ1 H1 v g s1 r1
      | bk => exact False.elim hq
      | ct => exact False.elim hq
  refine wpAny_mono (ht.run [] s1 (L2.start N vs) H { nx := fun _ H' => Q .non H', rt := Q } I (q _ _ ρ T _ _ rs (re_start (N := N) ru) mid)) (fun fl s' hs => ?_) fun e s' hs => hs
  cases fl with
  | ret u =>
    obtain ⟨v, σ1, H1, J, rj, qj⟩ := hs
    exact ⟨v, H1, J.os, J.bare, J.base, J.hok, rj, qj⟩
  | next =>
    obtain ⟨σ1, H1, J, qj⟩ := hs
    exact ⟨.non, H1, J.os, J.bare, J.base, J.hok, rfl, qj⟩
  | brk => exact hs.elim fun _ z => z.elim fun _ z => z.2.elim
  | cont => exact hs.elim fun _ z => z.elim fun _ z => z.2.elim

/-! ### calls -/
section
variable {X : Cx} {E : XK} {C : CXT} {k : Nat} {f : Addr} {fd : FuncData} {ps : List Str} {g : List U → M U} {x : Str} {p pos : Pos} {e : Expr} {es : List Expr} {Fr : FxA}
theorem runG {ρ : List Addr} {T : Sto} {pins : List (Addr × Obj)} {σ : L2.St} {H : Hp} {s : Shared} {Q : VK} {args : Args} {ws : List Value} {vs : List V} {us : List U} (F : FnG X.prog X.w X.K X.mg X.base C k f fd ps g) (room : Room k X.A) (gd : X.A.guards = some []) (hx : Passes C X E)
    (I : L2.Inv X pins σ H s) (bd : BindsTo s fd args (ps.zip ws)) (rv : Vals vs ws) (rs : RS X.K ρ H T) (ru : RVs X.K ρ H us vs) (lu : us.length = ps.length) (h : OK X.K ρ H E (rV X.K) (g us T) Q) :
    codeAny (model X.prog X.w) X.A (.call (.ref f) args) (fun r s' => match r with
      | .ok (.ret u) => EP X pins σ Q u s'
      | .ok _ => False
      | .error e => X.xe e s') s := by
  refine codeAny_mono (F.run X.A X.stack s H args ws vs us ρ T Q E room gd I.env0 bd rv rs ru lu h) fun r s' hq => ?_
  match r, hq with
  | .error e, hq => exact hx pins σ H s e s' I hq
  | .ok (.ret u), hq => exact I.after hq
  | .ok .next, hq => exact False.elim hq
  | .ok .brk, hq => exact False.elim hq
  | .ok .cont, hq => exact False.elim hq
/-- what a call of g asks -/
def tG (K : PySem.W.Frag) (ps : List Str) (g : List U → M U) (E : XK) : List V → Hp → VK → Prop := fun vs H Q => ∃ ρ T us, RS K ρ H T ∧ RVs K ρ H us vs ∧ us.length = ps.length ∧ OK K ρ H E (rV K) (g us T) Q
theorem peG {t : TA} (F : FnG X.prog X.w X.K X.mg X.base C k f fd ps g) (room : Room k X.A) (gd : X.A.guards = some []) (hg : Gl X x) (hm : X.mg x = some (.ref f)) (hk : PySem.W.keepIn X.K (.ref f) = true) (hb : Binds X.K fd ps []) (hx : Passes C X E)
    (ha : PA X (e :: es) t) (hdb : (x == ("__debug__" : Str)) = false) (he : starEach (e :: es) X.env = (false, eval e X.env) :: starEach es X.env) (hpl : (backTo pos (starEach es X.env)).any (·.1) = false) :
    PE X (.Call (.Name x p) (e :: es) [] pos) (tCB (tG X.K ps g E) t) := by
  refine ⟨fun pins s σ H Q I h => wpAny_Call_Name_kw (ld_glob I hg hm ?_ hdb)⟩
  refine PySem.W.callWith_K (h₀ := X.base) I.ok.mod.kin hk (thn (ha.run pos pins s σ H _ I h) fun ws s1 ⟨vs, H1, I1, rv, ρ, T, us, rs, ru, lu, hq⟩ => ⟨I1.kIn, ?_⟩) he hpl
  refine wpAny_call (codeAny_mono (runG (ws := ws) F room gd hx I1 ?_ rv rs ru lu hq) fun r s' q => ?_)
  · have := hb s1 ws I1.kIn (by rw [List.append_nil, ← rv.length, ← ru.length]; exact lu)
    rw [List.append_nil] at this
    exact this
  · match r, q with
    | .error e, q => exact q
    | .ok (.ret u), q => exact q
    | .ok .next, q => exact False.elim q
    | .ok .brk, q => exact False.elim q
    | .ok .cont, q => exact False.elim q
end
/-! ### what holds no object -/
mutual
def nr : U → Bool
  | .tup xs => nrs xs
  | .ob _ => false
  | _ => true
def nrs : List U → Bool
  | [] => true
  | x :: xs => nr x && nrs xs
end
def nrO : O → Bool
  | .lst xs => nrs xs
  | .dic kvs => nrs (kvs.map (·.2))
  | .ins _ fs => nrs (fs.map (·.2))
  | .exc _ fs => nrs (fs.map (·.2))
section
variable {K : PySem.W.Frag} {ρ ρ' : List Addr} {H H' : Hp} {T : Sto} {E : XK}
mutual
theorem RV.nr : ∀ {u : U} {v : V}, RV K ρ H u v → nr u = true → RV K ρ' H u v
  | _, _, .non, _ => .non
  | _, _, .bl b, _ => .bl b
  | _, _, .int i, _ => .int i
  | _, _, .str x, _ => .str x
  | _, _, .tup a r, h => .tup a (RVs.nr r (by simpa [Lf.nr] using h))
  | _, _, .ob e, h => by simp [Lf.nr] at h
  | _, _, .scr e, _ => .scr e
  | _, _, .raw v, _ => .raw v
theorem RVs.nr : ∀ {us : List U} {vs : List V}, RVs K ρ H us vs → nrs us = true → RVs K ρ' H us vs
  | _, _, .nil, _ => .nil
  | _, _, .cons r s, h => by
    have h : (Lf.nr _ && nrs _) = true := h
    obtain ⟨h1, h2⟩ := Bool.and_eq_true_iff.mp h
    exact .cons (RV.nr r h1) (RVs.nr s h2)
end
theorem paired_nr {α β : Type} {F : α → β → Prop} {pu : α → U} {pv : β → V} : ∀ {l : List α} {m : List β}, Paired (fun p q => F p q ∧ RV K ρ H (pu p) (pv q)) l m → nrs (l.map pu) = true → Paired (fun p q => F p q ∧ RV K ρ' H (pu p) (pv q)) l m
  | _, _, .nil, _ => .nil
  | _, _, .cons r s, h => by
    have h : (Lf.nr _ && nrs _) = true := h
    obtain ⟨h1, h2⟩ := Bool.and_eq_true_iff.mp h
    exact .cons ⟨r.1, r.2.nr h1⟩ (paired_nr s h2)
theorem RO.nr {o : O} {a : Addr} (h : RO K ρ H o a) (n : nrO o = true) : RO K ρ' H o a := by
  cases o with
  | lst xs => obtain ⟨vs, e, r⟩ := h; exact ⟨vs, e, r.nr n⟩
  | dic kvs =>
    rcases h with ⟨ks, e, r⟩ | ⟨ks, e, r⟩
    · exact .inl ⟨ks, e, paired_nr (F := fun (p : U × U) (q : Key × V) => p.1 = kU q.1) (pu := fun p => p.2) (pv := fun q => q.2) r n⟩
    · exact .inr ⟨ks, e, paired_nr (F := fun (p : U × U) (q : List Key × V) => p.1 = .tup (q.1.map kU)) (pu := fun p => p.2) (pv := fun q => q.2) r n⟩
  | ins C fs => obtain ⟨dx, gs, e, r⟩ := h; exact ⟨dx, gs, e, paired_nr (F := fun (p : Str × U) (q : Str × V) => p.1 = q.1) (pu := fun p => p.2) (pv := fun q => q.2) r n⟩
  | exc C fs => obtain ⟨d, gs, e, e2, r⟩ := h; exact ⟨d, gs, e, e2, paired_nr (F := fun (p : Str × U) (q : Str × V) => p.1 = q.1) (pu := fun p => p.2) (pv := fun q => q.2) r n⟩
theorem rs_nil : RS K [] H [] := ⟨rfl, List.nodup_nil, fun i o a e => by simp at e⟩
theorem xr_nr {e : Ex} {T T0 : Sto} {ρ₀ : List Addr} (h : XR K ρ H E e T) (n : nrs (e.fs.map (·.2)) = true) (up : ∀ ρ' H', Gr K ρ₀ H ρ' H' → RS K ρ' H' T0 → Gr K ρ H ρ H' ∧ RS K ρ H' T) : XR K ρ₀ H E e T0 := by
  intro ρ' H' d gs g s hd r
  obtain ⟨g2, s2⟩ := up ρ' H' g s
  exact h ρ H' d gs g2 s2 hd (paired_nr (F := fun (p : Str × U) (q : Str × V) => p.1 = q.1) (pu := fun p => p.2) (pv := fun q => q.2) r n)
/-- what a call over no object leaves -/
theorem up0 (s : RS K ρ H T) (g : Gr K [] H ρ' H') : Gr K ρ H ρ H' ∧ RS K ρ H' T := by
  have kp : ∀ a o, H a = some o → H' a = some o := fun a o q => g.kp a o (by simp) q
  refine ⟨⟨fun _ _ e => e, g.sq, g.rf, fun a o _ q => kp a o q, fun a h n => absurd h n, g.xd⟩, s.len, s.nd, fun i o a e1 e2 => ?_⟩
  obtain ⟨x, hx, _⟩ := s.live (List.mem_of_getElem? e2)
  exact (s.at_ i o a e1 e2).mono (fun _ _ e => e) g.sq g.rf g.xd (by rw [hx, kp a x hx])
/-- what a call over one object leaves -/
theorem up1 {i : Nat} {a : Addr} {o' : O} {T0 : Sto} (s : RS K ρ H T) (e : ρ[i]? = some a) (g : Gr K [a] H ρ' H') (s' : RS K ρ' H' (o' :: T0)) (n : nrO o' = true) : Gr K ρ H ρ H' ∧ RS K ρ H' (T.set i o') := by
  have ma : a ∈ ρ := List.mem_of_getElem? e
  have kp : ∀ b x, b ≠ a → H b = some x → H' b = some x := fun b x h q => g.kp b x (by simpa using h) q
  have hi := (List.getElem?_eq_some_iff.mp e).1
  have e0 : ρ'[0]? = some a := g.pre 0 a rfl
  refine ⟨⟨fun _ _ e => e, g.sq, g.rf, fun b x h q => kp b x (fun z => h (by rw [z]; exact ma)) q, fun b h n => absurd h n, g.xd⟩, by rw [List.length_set]; exact s.len, s.nd, fun j u b e1 e2 => ?_⟩
  by_cases hj : i = j
  · subst hj
    rw [List.getElem?_set_self (by rw [← s.len]; exact hi)] at e1
    cases e1
    rw [e] at e2
    cases e2
    exact (s'.at_ 0 o' a rfl e0).nr n
  · rw [List.getElem?_set_ne hj] at e1
    have nb : b ≠ a := by
      rintro rfl
      have hjl := (List.getElem?_eq_some_iff.mp e2).1
      exact hj ((List.getElem_inj s.nd).mp ((List.getElem?_eq_some_iff.mp e).2.trans (List.getElem?_eq_some_iff.mp e2).2.symm))
    obtain ⟨x, hx, _⟩ := s.live (List.mem_of_getElem? e2)
    exact (s.at_ j u b e1 e2).mono (fun _ _ e => e) g.sq g.rf g.xd (by rw [hx, kp b x nb hx])
end
/-- a call over the whole store -/
def lenG (n : Nat) (g : List U → M U) : List U → M U := fun us T => if us.length = n then g us T else .no
/-- a call of what takes no object: its own are dropped, but for the one handed back -/
def pureG (n : Nat) (g : List U → M U) : List U → M U := fun us T => if us.length = n ∧ nrs us = true then match g us [] with
  | .no => .no
  | .ex e _ => if nrs (e.fs.map (·.2)) = true then .ex e T else .no
  | .ok (.ob k) T0 => match T0[k]? with
    | some o => if nrO o = true then .ok (.ob T.length) (T ++ [o]) else .no
    | none => .no
  | .ok u _ => if nr u = true then .ok u T else .no else .no
/-- a call of what takes one object first, and no other -/
def urnG (n : Nat) (g : List U → M U) : List U → M U := fun us T => match us with
  | .ob i :: r => if r.length + 1 = n ∧ nrs r = true then match T[i]? with
    | some o => if nrO o = true then match g (.ob 0 :: r) [o] with
      | .ok u (o' :: _) => if nrO o' = true ∧ nr u = true then .ok u (T.set i o') else .no
      | _ => .no else .no
    | none => .no else .no
  | _ => .no
section
variable {K : PySem.W.Frag} {ρ : List Addr} {H : Hp} {T : Sto} {E : XK} {ps : List Str} {g : List U → M U} {us : List U} {vs : List V} {Q : VK}
theorem tG_len (s : RS K ρ H T) (r : RVs K ρ H us vs) (h : OK K ρ H E (rV K) (lenG ps.length g us T) Q) : tG K ps g E vs H Q := by
  unfold lenG at h
  split at h
  · rename_i hu
    exact ⟨ρ, T, us, s, r, hu, h⟩
  · exact False.elim h
theorem tG_pure (s : RS K ρ H T) (r : RVs K ρ H us vs) (h : OK K ρ H E (rV K) (pureG ps.length g us T) Q) : tG K ps g E vs H Q := by
  unfold pureG at h
  split at h
  · rename_i hu
    refine ⟨[], [], us, rs_nil, r.nr hu.2, hu.1, ?_⟩
    generalize g us [] = res at h
    match res, h with
    | .no, h => exact h
    | .ex e T0, h =>
      dsimp only at h
      split at h
      · rename_i hn
        exact xr_nr h hn fun ρ' H' g s' => up0 s g
      · exact False.elim h
    | .ok (.ob k) T0, h =>
      dsimp only at h
      split at h
      · rename_i o eo
        split at h
        · rename_i hn
          intro ρ' H' b g s' rb
          obtain ⟨g2, s2⟩ := up0 s g
          cases rb with
          | @ob _ a ea =>
            have na : a ∉ ρ := fun m => by
              obtain ⟨y, hy, _⟩ := s.live m
              rw [g.nw a (List.mem_of_getElem? ea) (by simp)] at hy
              cases hy
            refine h (ρ ++ [a]) H' (.ref a) ⟨fun i b e => by rw [List.getElem?_append_left (List.getElem?_eq_some_iff.mp e).1]; exact e, g2.sq, g2.rf, g2.kp, fun b m n => ?_, g2.xd⟩ ?_ ?_
            · rcases List.mem_append.mp m with m | m
              · exact absurd m n
              · rw [List.mem_singleton.mp m]; exact g.nw a (List.mem_of_getElem? ea) (by simp)
            · exact s2.adopt na (.inr trivial) ((s'.at_ k o a eo ea).nr hn) fun _ _ q => q.more
            · exact .ob (by rw [← s2.len, List.getElem?_append_right (Nat.le_refl _), Nat.sub_self]; rfl)
        · exact False.elim h
      · exact False.elim h
    | .ok .non T0, h => exact fun ρ' H' b g s' rb => h ρ H' b (up0 s g).1 (up0 s g).2 (rb.nr rfl)
    | .ok (.bl _) T0, h => exact fun ρ' H' b g s' rb => h ρ H' b (up0 s g).1 (up0 s g).2 (rb.nr rfl)
    | .ok (.int _) T0, h => exact fun ρ' H' b g s' rb => h ρ H' b (up0 s g).1 (up0 s g).2 (rb.nr rfl)
    | .ok (.str _) T0, h => exact fun ρ' H' b g s' rb => h ρ H' b (up0 s g).1 (up0 s g).2 (rb.nr rfl)
    | .ok (.scr _) T0, h => exact fun ρ' H' b g s' rb => h ρ H' b (up0 s g).1 (up0 s g).2 (rb.nr rfl)
    | .ok (.raw _) T0, h => exact fun ρ' H' b g s' rb => h ρ H' b (up0 s g).1 (up0 s g).2 (rb.nr rfl)
    | .ok (.tup xs) T0, h =>
      dsimp only at h
      split at h
      · rename_i hn
        exact fun ρ' H' b g s' rb => h ρ H' b (up0 s g).1 (up0 s g).2 (rb.nr hn)
      · exact False.elim h
  · exact False.elim h
theorem tG_urn (s : RS K ρ H T) (r : RVs K ρ H us vs) (h : OK K ρ H E (rV K) (urnG ps.length g us T) Q) : tG K ps g E vs H Q := by
  unfold urnG at h
  split at h
  · rename_i i rr
    split at h
    · rename_i hu
      split at h
      · rename_i o eo
        split at h
        · rename_i ho
          cases r with
          | @cons _ v _ vr r1 r2 =>
            cases r1 with
            | @ob _ a ea =>
              have ra := s.at_ i o a eo ea
              refine ⟨[a], [o], .ob 0 :: rr, ⟨rfl, by simp, fun j u b e1 e2 => ?_⟩, .cons (.ob rfl) (r2.nr hu.2), hu.1, ?_⟩
              · cases j with
                | zero => cases e1; cases e2; exact ra.nr ho
                | succ j => simp at e1
              · generalize g (.ob 0 :: rr) [o] = res at h
                match res, h with
                | .ok u (o' :: T0), h =>
                  dsimp only at h
                  split at h
                  · rename_i hn
                    exact fun ρ' H' b g s' rb => h ρ H' b (up1 s ea g s' hn.1).1 (up1 s ea g s' hn.1).2 (rb.nr hn.2)
                  · exact False.elim h
                | .ok u [], h => exact False.elim h
                | .no, h => exact h
                | .ex _ _, h => exact False.elim h
        · exact False.elim h
      · exact False.elim h
    · exact False.elim h
  · exact False.elim h
end
section
variable {X : Cx} {E : XK} {C : CXT} {k : Nat} {f : Addr} {fd : FuncData} {ps : List Str} {g : List U → M U} {x : Str} {p pos : Pos} {e : Expr} {es : List Expr} {Fr : FxA}
/-- how the callee is run: over the whole store, over nothing, over its first argument alone -/
inductive Kd where
  | len
  | pur
  | urn
def kdG : Kd → Nat → (List U → M U) → List U → M U
  | .len => lenG
  | .pur => pureG
  | .urn => urnG
theorem tG_kd {K : PySem.W.Frag} {ρ : List Addr} {H : Hp} {T : Sto} {us : List U} {vs : List V} {Q : VK} (kd : Kd) (s : RS K ρ H T) (r : RVs K ρ H us vs) (h : OK K ρ H E (rV K) (kdG kd ps.length g us T) Q) : tG K ps g E vs H Q := by
  cases kd with
  | len => exact tG_len s r h
  | pur => exact tG_pure s r h
  | urn => exact tG_urn s r h
theorem fe_call (kd : Kd) (F : FnG X.prog X.w X.K X.mg X.base C k f fd ps g) (room : Room k X.A) (gd : X.A.guards = some []) (hg : Gl X x) (hm : X.mg x = some (.ref f)) (hk : PySem.W.keepIn X.K (.ref f) = true) (hb : Binds X.K fd ps []) (hx : Passes C X E)
    (ha : FA X E (e :: es) Fr) (hdb : (x == ("__debug__" : Str)) = false := by decide) (he : starEach (e :: es) X.env = (false, eval e X.env) :: starEach es X.env := by rfl) (hpl : (backTo pos (starEach es X.env)).any (·.1) = false := by rfl) :
    FE X E (.Call (.Name x p) (e :: es) [] pos) (fCall (kdG kd ps.length g) Fr) := by
  obtain ⟨t, kk, q⟩ := ha
  refine ⟨_, peG F room gd hg hm hk hb hx kk hdb he hpl, fun σ H ρ T η Q s re h => ?_⟩
  exact q σ H ρ T η _ s re (OK.mono (OK.bind h) fun xs H1 ⟨ρ1, T1, us, g1, s1, r1, k1⟩ => tG_kd kd s1 r1 k1)
theorem fe_call0 (kd : Kd) (F : FnG X.prog X.w X.K X.mg X.base C k f fd ps g) (room : Room k X.A) (gd : X.A.guards = some []) (hg : Gl X x) (hm : X.mg x = some (.ref f)) (hk : PySem.W.keepIn X.K (.ref f) = true) (hb : Binds X.K fd ps []) (hx : Passes C X E)
    (hp : ps = []) (hdb : (x == ("__debug__" : Str)) = false := by decide) : FE X E (.Call (.Name x p) [] [] pos) (fCall (kdG kd ps.length g) fNil) := by
  refine ⟨fun σ H Q => tG X.K ps g E [] H Q, ⟨fun pins s σ H Q I h => wpAny_Call_Name_kw (ld_glob I hg hm ?_ hdb)⟩, fun σ H ρ T η Q s re h => ?_⟩
  · obtain ⟨ρ, T, us, rs, ru, lu, hq⟩ := h
    refine PySem.W.callWith_K0 I.kIn hk (wpAny_call (codeAny_mono (runG (ws := []) F room gd hx I ?_ .nil rs ru lu hq) fun r s' q => ?_))
    · exact hb s [] I.kIn (by rw [hp]; rfl)
    · match r, q with
      | .error e, q => exact q
      | .ok (.ret u), q => exact q
      | .ok .next, q => exact False.elim q
      | .ok .brk, q => exact False.elim q
      | .ok .cont, q => exact False.elim q
  · exact tG_kd kd s .nil h
/-! ### keywords alone: f(k = v, ..), the values put in the parameters' order by ix -/
structure FK (X : Cx) (E : XK) (kws : List Keyword) (F : FxA) : Prop where
  ex : ∃ t : TA, PK X kws t ∧ ∀ (σ : L2.St) (H : Hp) (ρ : List Addr) (T : Sto) (η : Lo) (Q : List V → Hp → Prop), RS X.K ρ H T → RE X.K ρ H η σ → OK X.K ρ H E (rVs X.K) (F η T) Q → t σ H Q
theorem fk_nil : FK X E [] fNil := ⟨_, pk_nil, fun _ _ _ _ _ _ s _ h => h _ _ _ Gr.refl s .nil⟩
theorem fk_cons {Fa : FxE} {Fr : FxA} {nm : Option Str} {kpos : Pos} {kws : List Keyword} (ha : FE X E e Fa) (hr : FK X E kws Fr) : FK X E (⟨nm, e, kpos⟩ :: kws) (fCons Fa Fr) := by
  obtain ⟨ta, ka, qa⟩ := ha
  obtain ⟨tr, kr, qr⟩ := hr
  refine ⟨_, pk_cons ka kr, fun σ H ρ T η Q s re h => ?_⟩
  refine qa σ H ρ T η _ s re (OK.mono (OK.bind h) fun x H1 ⟨ρ1, T1, u, g1, s1, r1, k1⟩ => ?_)
  refine qr σ H1 ρ1 T1 η _ s1 (re.gr g1) (OK.mono (OK.bind k1) fun xs H2 ⟨ρ2, T2, us, g2, s2, r2, k2⟩ => ?_)
  exact k2 _ _ _ Gr.refl s2 (.cons (RV.gr r1 g2) r2)
/-- the items at the places ix -/
def pick {α : Type} (ix : List Nat) (l : List α) : List α := ix.filterMap fun i => l[i]?
def kwG (kd : Kd) (n m : Nat) (ix : List Nat) (g : List U → M U) : List U → M U := fun us T => if us.length = m then kdG kd n g (pick ix us) T else .no

theorem pick_vals {ix : List Nat} {vs : List V} {ws : List Value} (r : Vals vs ws) : Vals (pick ix vs) (pick ix ws) := by
  induction ix with
  | nil => exact .nil
  | cons i ix ih =>
    unfold pick at ih ⊢
    rw [List.filterMap_cons, List.filterMap_cons]
    cases e : vs[i]? with
    | none => rw [r.none_of e]; exact ih
    | some v =>
      obtain ⟨u, h1, h2⟩ := r.get e
      rw [h1]
      exact .cons h2 ih
theorem pick_us {K : PySem.W.Frag} {ρ : List Addr} {H : Hp} {ix : List Nat} {us : List U} {vs : List V} (r : RVs K ρ H us vs) : RVs K ρ H (pick ix us) (pick ix vs) := by
  induction ix with
  | nil => exact .nil
  | cons i ix ih =>
    unfold pick at ih ⊢
    rw [List.filterMap_cons, List.filterMap_cons]
    cases e : us[i]? with
    | none => rw [r.none_of e]; exact ih
    | some v =>
      obtain ⟨u, h1, h2⟩ := r.get e
      rw [h1]
      exact .cons h2 ih
theorem fe_callK (kd : Kd) (ix : List Nat) {ks : List Str} {kws : List Keyword} (F : FnG X.prog X.w X.K X.mg X.base C k f fd ps g) (room : Room k X.A) (gd : X.A.guards = some []) (hg : Gl X x) (hm : X.mg x = some (.ref f)) (hk : PySem.W.keepIn X.K (.ref f) = true)
    (hb : ∀ (s : Shared) (ws : List Value), ws.length = ks.length → BindsTo s fd ⟨[], ks.zip ws⟩ (ps.zip (pick ix ws))) (hx : Passes C X E) (ha : FK X E kws Fr) (hall : (backToKw pos (keywordEach kws X.env)).all (·.1.isSome) = true := by rfl)
    (hks : (backToKw pos (keywordEach kws X.env)).filterMap (·.1) = ks := by rfl) (hdb : (x == ("__debug__" : Str)) = false := by decide) (hpl : ((backTo pos (starEach [] X.env)).any (·.1) || (backToKw pos (keywordEach kws X.env)).any (·.1.isNone)) = false := by rfl) :
    FE X E (.Call (.Name x p) [] kws pos) (fCall (kwG kd ps.length ks.length ix g) Fr) := by
  obtain ⟨t, kk, q⟩ := ha
  refine ⟨fun σ H Q => t σ H fun vs H1 => vs.length = ks.length ∧ tG X.K ps g E (pick ix vs) H1 Q, ⟨fun pins s σ H Q I h => wpAny_Call_Name_kw (ld_glob I hg hm ?_ hdb)⟩, fun σ H ρ T η Q s re h => ?_⟩
  · refine PySem.W.callWith_KW0 (h₀ := X.base) I.ok.mod.kin hk hall (thn (kk.run pos pins s σ H _ I h) fun ws s1 ⟨vs, H1, I1, rv, lv, ρ, T, us, rs, ru, lu, hq⟩ => ⟨I1.kIn, ?_⟩) hpl
    rw [hks]
    refine wpAny_call (codeAny_mono (runG F room gd hx I1 (hb s1 ws (by rw [← rv.length]; exact lv)) (pick_vals rv) rs ru lu hq) fun r s' q => ?_)
    match r, q with
    | .error e, q => exact q
    | .ok (.ret u), q => exact q
    | .ok .next, q => exact False.elim q
    | .ok .brk, q => exact False.elim q
    | .ok .cont, q => exact False.elim q
  · refine q σ H ρ T η _ s re (OK.mono (OK.bind h) fun xs H1 ⟨ρ1, T1, us, g1, s1, r1, k1⟩ => ?_)
    unfold kwG at k1
    split at k1
    · rename_i hu
      exact ⟨by rw [← r1.length]; exact hu, tG_kd kd s1 (pick_us r1) k1⟩
    · exact False.elim k1
end
end Lf


set_option Elab.async false
set_option linter.all false
set_option maxRecDepth 100000
set_option maxHeartbeats 4000000
/-! ## what is walked, subscripts, slices, built-ins, methods -/
namespace Lf
open PySem PySem.Spec L2

/-! ### walks -/
def constI (xs : List U) : ItF := ⟨xs.map fun u _ => some u, fun _ => true⟩
def lstAt (T : Sto) (k n : Nat) : Option (List U) := match T[k]? with
  | some (.lst ys) => if ys.length = n then some ys else none
  | _ => none
def objI (k n : Nat) : ItF := ⟨(List.range n).map fun i T => (lstAt T k n).bind (·[i]?), fun T => (lstAt T k n).isSome⟩
def gIter : U → M ItF := fun u T => match u with
  | .tup xs => .ok (constI xs) T
  | .scr ns => .ok (constI (ns.map .int)) T
  | .ob k => match T[k]? with
    | some (.lst xs) => .ok (objI k xs.length) T
    | _ => .no
  | _ => .no
def fIter (Fe : FxE) : FxI := fun η T => (Fe η T).bind fun u T1 => gIter u T1
def signI (x : Str) : List U := x.cps.toList.map fun c => .str ⟨#[c]⟩
def fIterS (Fe : FxE) : FxI := fun η T => (Fe η T).bind fun u T1 => match u with
  | .str x => .ok (constI (signI x)) T1
  | _ => .no
def rgU (lo : Int) (n : Nat) : List U := (List.range n).map fun i => .int (lo + (i : Nat))
def small62 (i : Int) : Bool := decide (-4611686018427387904 ≤ i) && decide (i < 4611686018427387904)
def gRg1 : List U → M ItF := fun us T => match us with
  | [.int j] => if small62 j = true then .ok (constI (rgU 0 j.toNat)) T else .no
  | _ => .no
def gRg2 : List U → M ItF := fun us T => match us with
  | [.int i, .int j] => if (small62 i && small62 j) = true then .ok (constI (rgU i (j - i).toNat)) T else .no
  | _ => .no
def fRg (g : List U → M ItF) (Fr : FxA) : FxI := fun η T => (Fr η T).bind fun us T1 => g us T1
section
variable {K : PySem.W.Frag} {ρ : List Addr} {H : Hp} {T : Sto}
theorem itOk_const {xs : List U} {J : It} (hgo : ∀ i H', i < xs.length → (∃ ρ', Gr K ρ H ρ' H') → J.go i H') (hst : ∀ H', (∃ ρ', Gr K ρ H ρ' H') → J.stop xs.length H')
    (hy : ∀ i u ρ' H' x H'', xs[i]? = some u → Gr K ρ H ρ' H' → J.yld i H' x H'' → H'' = H' ∧ RV K ρ' H' u x) : ItOk K ρ H (constI xs) J where
  go := fun i f ρ' H' T' u e g s ef => by
    refine hgo i H' ?_ ⟨ρ', g⟩
    have := (List.getElem?_eq_some_iff.mp e).1
    simpa [constI] using this
  yl := fun i f ρ' H' T' u x H'' e g s ef y => by
    have e : (xs.map fun (u : U) (_ : Sto) => some u)[i]? = some f := e
    rw [List.getElem?_map] at e
    cases q : xs[i]? with
    | none => rw [q] at e; cases e
    | some z =>
      rw [q] at e
      cases e
      have ez : z = u := Option.some.inj ef
      subst ez
      obtain ⟨rfl, r⟩ := hy i z ρ' H' x H'' q g y
      exact ⟨Gr.refl, s, r⟩
  st := fun ρ' H' T' g s _ => by
    have := hst H' ⟨ρ', g⟩
    have e : (constI xs).its.length = xs.length := by simp [constI]
    rw [e]
    exact this
theorem itOk_tup {a : Addr} {us : List U} {vs : List V} (q : SqT K H a vs) (r : RVs K ρ H us vs) : ItOk K ρ H (constI us) (Itt K a) := by
  have hl := r.length
  refine itOk_const (fun i H' hi ⟨ρ', g⟩ => ⟨vs, vs[i]'(by omega), g.sq _ _ q, by simp⟩) (fun H' ⟨ρ', g⟩ => ⟨vs, g.sq _ _ q, by omega⟩) (fun i u ρ' H' x H'' e g y => ?_)
  obtain ⟨e1, y⟩ := y
  refine ⟨e1, ?_⟩
  obtain ⟨v, h1, h2⟩ := r.get e
  have h3 := y vs (g.sq _ _ q)
  rw [h1] at h3
  cases h3
  exact h2.gr g
theorem itOk_scr {a : Addr} {ns : List Int} (q : RF K H a (ns.map V.int)) : ItOk K ρ H (constI (ns.map .int)) (Itl K a) := by
  refine itOk_const (fun i H' hi ⟨ρ', g⟩ => ⟨ns.map V.int, V.int (ns[i]'(by simpa using hi)), (g.rf _ _ q).sq, by simp⟩) (fun H' ⟨ρ', g⟩ => ⟨ns.map V.int, (g.rf _ _ q).sq, by simp⟩) (fun i u ρ' H' x H'' e g y => ?_)
  obtain ⟨e1, y⟩ := y
  refine ⟨e1, ?_⟩
  have h3 := y _ (g.rf _ _ q).sq
  rw [List.getElem?_map] at e h3
  cases z : ns[i]? with
  | none => rw [z] at e; cases e
  | some n =>
    rw [z] at e h3
    cases e
    cases h3
    exact .int n
theorem lstAt_some {T : Sto} {k n : Nat} {ys : List U} (h : lstAt T k n = some ys) : T[k]? = some (.lst ys) ∧ ys.length = n := by
  unfold lstAt at h
  split at h
  · split at h
    · cases h
      exact ⟨by assumption, by assumption⟩
    · cases h
  · cases h
theorem itOk_obj {a : Addr} {k n : Nat} (e : ρ[k]? = some a) : ItOk K ρ H (objI k n) (Itl K a) where
  go := fun i f ρ' H' T' u ef g s h => by
    have ef : ((List.range n).map fun (i : Nat) (T : Sto) => (lstAt T k n).bind (·[i]?))[i]? = some f := ef
    rw [List.getElem?_map] at ef
    cases q : (List.range n)[i]? with
    | none => rw [q] at ef; cases ef
    | some j =>
      rw [q] at ef
      cases ef
      have ej : j = i := by
        have := (List.getElem?_eq_some_iff.mp q).2
        simpa using this.symm
      subst ej
      obtain ⟨ys, h1, h2⟩ := Option.bind_eq_some_iff.mp h
      obtain ⟨h3, _⟩ := lstAt_some h1
      obtain ⟨b, p, vs, f1, rs⟩ := s.get h3
      rw [g.pre k a e] at p
      cases p
      obtain ⟨v, h4, _⟩ := rs.get h2
      exact ⟨vs, v, SqL.of f1, h4⟩
  yl := fun i f ρ' H' T' u x H'' ef g s h y => by
    have ef : ((List.range n).map fun (i : Nat) (T : Sto) => (lstAt T k n).bind (·[i]?))[i]? = some f := ef
    rw [List.getElem?_map] at ef
    cases q : (List.range n)[i]? with
    | none => rw [q] at ef; cases ef
    | some j =>
      rw [q] at ef
      cases ef
      have ej : j = i := by
        have := (List.getElem?_eq_some_iff.mp q).2
        simpa using this.symm
      subst ej
      obtain ⟨ys, h1, h2⟩ := Option.bind_eq_some_iff.mp h
      obtain ⟨h3, _⟩ := lstAt_some h1
      obtain ⟨b, p, vs, f1, rs⟩ := s.get h3
      rw [g.pre k a e] at p
      cases p
      obtain ⟨v, h4, h5⟩ := rs.get h2
      obtain ⟨rfl, y⟩ := y
      have := y vs (SqL.of f1)
      rw [h4] at this
      cases this
      exact ⟨Gr.refl, s, h5⟩
  st := fun ρ' H' T' g s h => by
    have h : (lstAt T' k n).isSome = true := h
    obtain ⟨ys, h1⟩ := Option.isSome_iff_exists.mp h
    obtain ⟨h3, h4⟩ := lstAt_some h1
    obtain ⟨b, p, vs, f1, rs⟩ := s.get h3
    rw [g.pre k a e] at p
    cases p
    exact ⟨vs, SqL.of f1, by rw [← rs.length, h4]; simp [objI]⟩
end
section
variable {X : Cx} {E : XK} {pos : Pos} {tg : Expr}
/-- a list or a tuple is walked -/
def iSeq (K : PySem.W.Frag) (te : TE) : TI := fun σ H R => te σ H fun x H1 => ∃ a, x = .ref a ∧ (((∃ xs, SqL K H1 a xs) ∧ R (Itl K a) H1) ∨ ((∃ xs, SqT K H1 a xs) ∧ R (Itt K a) H1))
theorem pi_seq {l : Expr} {te : TE} (hl : PE X l te) : PI X tg l (iSeq X.K te) := by
  constructor
  intro pins s σ H R I h
  refine thn (hl.run pins s σ H _ I h) ?_
  rintro v s1 ⟨x, H1, I1, r1, a, rfl, q⟩
  cases r1
  rcases q with ⟨⟨xs, hq⟩, q⟩ | ⟨⟨xs, hq⟩, q⟩
  · obtain ⟨its, rv, p, hz⟩ := I1.list hq
    refine PySem.wpAny_pyIter_list p.isList ⟨s1.heap.objs.size, [s1.heap.objs.size], fun i h => h.IsListIter s1.heap.objs.size a i, Itl X.K a, H1, rfl, I1.kept (t' := s1.toks) fun b o e => Heap.get?_push_of_some _ e, turn_list a _, ⟨_, Heap.get?_push_size _ rfl, rfl, rfl⟩, fun b hb => ?_, q⟩
    rw [List.mem_singleton.mp hb]
    exact I1.fpOk (Nat.le_refl _) (I1.hok.fresh (Nat.le_refl _))
  · obtain ⟨its, rv, p, hz⟩ := I1.tuple hq
    refine PySem.wpAny_pyIter_tuple (show s1.heap.IsTuple a its.toArray from p) ⟨s1.heap.objs.size, [s1.heap.objs.size], fun i h => h.IsTupleIter s1.heap.objs.size a i, Itt X.K a, H1, rfl, I1.kept (t' := s1.toks) fun b o e => Heap.get?_push_of_some _ e, turn_tuple a _, ⟨_, Heap.get?_push_size _ rfl, rfl, rfl⟩, fun b hb => ?_, q⟩
    rw [List.mem_singleton.mp hb]
    exact I1.fpOk (Nat.le_refl _) (I1.hok.fresh (Nat.le_refl _))
theorem fi_seq {l : Expr} {Fe : FxE} (hl : FE X E l Fe) : FI X E tg l (fIter Fe) := by
  obtain ⟨t, k, q⟩ := hl
  refine ⟨_, pi_seq k, fun σ H ρ T η R s r h => ?_⟩
  refine q σ H ρ T η _ s r (OK.mono (OK.bind h) fun x H1 ⟨ρ1, T1, u, g1, s1, r1, k1⟩ => ?_)
  unfold gIter at k1
  cases r1 with
  | @tup a vs us sq rs => exact ⟨a, rfl, .inr ⟨⟨vs, sq⟩, k1 _ _ _ Gr.refl s1 (itOk_tup sq rs)⟩⟩
  | @scr a ns h => exact ⟨a, rfl, .inl ⟨⟨_, h.sq⟩, k1 _ _ _ Gr.refl s1 (itOk_scr h)⟩⟩
  | @ob i a ea =>
    dsimp only at k1
    split at k1
    · rename_i xs e
      obtain ⟨b, p, vs, f1, rs⟩ := s1.get e
      rw [ea] at p
      cases p
      exact ⟨a, rfl, .inl ⟨⟨vs, SqL.of f1⟩, k1 _ _ _ Gr.refl s1 (itOk_obj ea)⟩⟩
    · exact False.elim k1
  | _ => exact False.elim k1
theorem fi_str {l : Expr} {Fe : FxE} (hl : FE X E l Fe) : FI X E tg l (fIterS Fe) := by
  obtain ⟨t, k, q⟩ := hl
  refine ⟨_, pi_str k, fun σ H ρ T η R s r h => ?_⟩
  refine q σ H ρ T η _ s r (OK.mono (OK.bind h) fun v H1 ⟨ρ1, T1, u, g1, s1, r1, k1⟩ => ?_)
  cases u with
  | str x =>
    cases r1
    have hl : (signI x).length = x.cps.size := by simp [signI]
    refine ⟨x, rfl, k1 _ _ _ Gr.refl s1 (itOk_const (fun i H' hi _ => by rw [hl] at hi; exact hi) (fun H' _ => by rw [hl]; exact Nat.le_refl _) (fun i u ρ' H' y H'' e g yy => ?_))⟩
    obtain ⟨e1, c, hc, rfl⟩ := yy
    refine ⟨e1, ?_⟩
    unfold signI at e
    rw [List.getElem?_map] at e
    have : x.cps.toList[i]? = some c := by rw [Array.getElem?_toList]; exact hc
    rw [this] at e
    cases e
    exact .str _
  | _ => exact False.elim k1
theorem itOk_rg {K : PySem.W.Frag} {ρ : List Addr} {H : Hp} {lo : Int} {n : Nat} : ItOk K ρ H (constI (rgU lo n)) (Itr lo n) := by
  have hl : (rgU lo n).length = n := by simp [rgU]
  refine itOk_const (fun i H' hi _ => by rw [hl] at hi; exact hi) (fun H' _ => by rw [hl]; exact Nat.le_refl _) (fun i u ρ' H' y H'' e g yy => ?_)
  obtain ⟨e1, rfl⟩ := yy
  refine ⟨e1, ?_⟩
  unfold rgU at e
  rw [List.getElem?_map] at e
  cases q : (List.range n)[i]? with
  | none => rw [q] at e; cases e
  | some j =>
    rw [q] at e
    have ej : j = i := by
      have := (List.getElem?_eq_some_iff.mp q).2
      simpa using this.symm
    subst ej
    cases e
    exact .int _
theorem small62_iff {i : Int} (h : small62 i = true) : -(2 ^ 62) ≤ i ∧ i < 2 ^ 62 := by
  unfold small62 at h
  simp only [Bool.and_eq_true, decide_eq_true_eq] at h
  omega
theorem fi_range1 {a : Expr} {Fr : FxA} {p : Pos} (hg : Gl X "range") (hm : X.mg "range" = none) (ha : FA X E [a] Fr) (hs : starEach [a] X.env = [(false, eval a X.env)] := by rfl) : FI X E tg (.Call (.Name "range" p) [a] [] pos) (fRg gRg1 Fr) := by
  obtain ⟨t, k, q⟩ := ha
  refine ⟨_, pi_range1 hg hm k hs, fun σ H ρ T η R s r h => ?_⟩
  refine q σ H ρ T η _ s r (OK.mono (OK.bind h) fun vs H1 ⟨ρ1, T1, us, g1, s1, r1, k1⟩ => ?_)
  unfold gRg1 at k1
  split at k1
  · match r1 with
    | .cons (.int j) .nil =>
      split at k1
      · rename_i hj
        exact ⟨_, rfl, (small62_iff hj).1, (small62_iff hj).2, k1 _ _ _ Gr.refl s1 itOk_rg⟩
      · exact False.elim k1
  · exact False.elim k1
theorem fi_range2 {a b : Expr} {Fr : FxA} {p : Pos} (hg : Gl X "range") (hm : X.mg "range" = none) (ha : FA X E [a, b] Fr) (hs : starEach [a, b] X.env = [(false, eval a X.env), (false, eval b X.env)] := by rfl) (hs2 : starEach [b] X.env = [(false, eval b X.env)] := by rfl) :
    FI X E tg (.Call (.Name "range" p) [a, b] [] pos) (fRg gRg2 Fr) := by
  obtain ⟨t, k, q⟩ := ha
  refine ⟨_, pi_range2 hg hm k hs hs2, fun σ H ρ T η R s r h => ?_⟩
  refine q σ H ρ T η _ s r (OK.mono (OK.bind h) fun vs H1 ⟨ρ1, T1, us, g1, s1, r1, k1⟩ => ?_)
  unfold gRg2 at k1
  split at k1
  · match r1 with
    | .cons (.int i) (.cons (.int j) .nil) =>
      split at k1
      · rename_i hj
        obtain ⟨hi, hj⟩ := Bool.and_eq_true_iff.mp hj
        exact ⟨_, _, rfl, ⟨(small62_iff hi).1, (small62_iff hi).2, (small62_iff hj).1, (small62_iff hj).2⟩, k1 _ _ _ Gr.refl s1 itOk_rg⟩
      · exact False.elim k1
  · exact False.elim k1
end
/-! ### subscripts -/
def gIx : U → U → M U := fun o i T => match o, i with
  | .tup xs, .int n => match atI xs n with
    | some u => .ok u T
    | none => .no
  | .scr ns, .int n => match atI ns n with
    | some m => .ok (.int m) T
    | none => .no
  | .str z, .int n => if z.length ≤ 16777216 then match atI z.cps.toList n with
    | some c => .ok (.str ⟨#[c]⟩) T
    | none => .no else .no
  | .ob k, .int n => match T[k]? with
    | some (.lst xs) => match atI xs n with
      | some u => .ok u T
      | none => .no
    | _ => .no
  | _, _ => .no
section
variable {X : Cx} {E : XK} {pos : Pos}
theorem atI_rel {K : PySem.W.Frag} {ρ : List Addr} {H : Hp} {us : List U} {vs : List V} {n : Int} {u : U} (r : RVs K ρ H us vs) (h : atI us n = some u) : ∃ v, atI vs n = some v ∧ RV K ρ H u v := by
  unfold atI at h ⊢
  obtain ⟨j, h1, h2⟩ := Option.bind_eq_some_iff.mp h
  obtain ⟨v, h3, h4⟩ := r.get h2
  exact ⟨v, Option.bind_eq_some_iff.mpr ⟨j, by rw [← r.length]; exact h1, h3⟩, h4⟩
theorem atI_map {α β : Type} {f : α → β} {xs : List α} {n : Int} {x : α} (h : atI xs n = some x) : atI (xs.map f) n = some (f x) := by
  unfold atI at h ⊢
  obtain ⟨j, h1, h2⟩ := Option.bind_eq_some_iff.mp h
  exact Option.bind_eq_some_iff.mpr ⟨j, by rw [List.length_map]; exact h1, by rw [List.getElem?_map, h2]; rfl⟩
theorem fe_ix {a b : Expr} {Fa Fb : FxE} (ha : FE X E a Fa) (hb : FE X E b Fb) (hs : PlainIx b := by intro _ _; rfl) : FE X E (.Subscript a b pos) (fBin gIx Fa Fb) := by
  obtain ⟨ta, ka, qa⟩ := ha
  obtain ⟨tb, kb, qb⟩ := hb
  refine ⟨_, pe_ix ix_seq ka kb hs, fun σ H ρ T η Q s re h => ?_⟩
  refine qa σ H ρ T η _ s re (OK.mono (OK.bind h) fun x H1 ⟨ρ1, T1, u, g1, s1, r1, k1⟩ => ?_)
  refine qb σ H1 ρ1 T1 η _ s1 (re.gr g1) (OK.mono (OK.bind k1) fun y H2 ⟨ρ2, T2, w, g2, s2, r2, k2⟩ => ?_)
  have r1 := RV.gr r1 g2
  unfold gIx at k2
  split at k2
  · split at k2
    · rename_i v e
      cases r2
      match r1 with
      | .tup q rs =>
        obtain ⟨v', h1, h2⟩ := atI_rel rs e
        exact .inr (.inl ⟨_, _, _, _, rfl, rfl, q, h1, okV s2 k2 h2⟩)
    · exact False.elim k2
  · split at k2
    · rename_i v e
      cases r2
      match r1 with
      | .scr q => exact .inl ⟨_, _, _, _, rfl, rfl, q.sq, atI_map e, okV s2 k2 (.int _)⟩
    · exact False.elim k2
  · split at k2
    · rename_i hz
      split at k2
      · rename_i v e
        cases r2
        cases r1
        exact .inr (.inr ⟨_, _, _, rfl, rfl, by rw [sz16]; exact hz, e, okV s2 k2 (.str _)⟩)
      · exact False.elim k2
    · exact False.elim k2
  · split at k2
    · rename_i xs ex
      split at k2
      · rename_i v e
        cases r2
        match r1 with
        | .ob ea =>
          obtain ⟨b, p, vs, f1, rs⟩ := s2.get ex
          rw [ea] at p
          cases p
          obtain ⟨v', h1, h2⟩ := atI_rel rs e
          exact .inl ⟨_, _, _, _, rfl, rfl, SqL.of f1, h1, okV s2 k2 h2⟩
      · exact False.elim k2
    · exact False.elim k2
  · exact False.elim k2
/-! ### slices a[lo:hi] -/
def cutU {α : Type} (xs : List α) (lo hi : Option Int) : List α := (xs.drop (HT.sIx xs.length 0 lo)).take (HT.sIx xs.length xs.length hi - HT.sIx xs.length 0 lo)
def gCut (lo hi : Option Int) : U → M U := fun o T => match o with
  | .tup xs => .ok (.tup (cutU xs lo hi)) T
  | .ob k => match T[k]? with
    | some (.lst xs) => nw (.lst (cutU xs lo hi)) T
    | _ => .no
  | _ => .no
abbrev FxO := Lo → M (Option Int)
structure FO (X : Cx) (E : XK) (e : Option Expr) (F : FxO) : Prop where
  ex : ∃ t : TO, PO X e t ∧ ∀ (σ : L2.St) (H : Hp) (ρ : List Addr) (T : Sto) (η : Lo) (Q : Option Int → Hp → Prop), RS X.K ρ H T → RE X.K ρ H η σ → OK X.K ρ H E (fun _ _ a b => a = b) (F η T) Q → t σ H Q
def fNoP : FxO := fun _ T => .ok none T
def fPt (Fe : FxE) : FxO := fun η T => (Fe η T).bind fun u T1 => match u with
  | .int i => .ok (some i) T1
  | _ => .no
theorem fo_none : FO X E none fNoP := ⟨_, po_none, fun _ _ _ _ _ _ s _ h => h _ _ _ Gr.refl s rfl⟩
theorem fo_some {e : Expr} {Fe : FxE} (he : FE X E e Fe) : FO X E (some e) (fPt Fe) := by
  obtain ⟨t, k, q⟩ := he
  refine ⟨_, po_some k, fun σ H ρ T η Q s re h => ?_⟩
  refine q σ H ρ T η _ s re (OK.mono (OK.bind h) fun x H1 ⟨ρ1, T1, u, g1, s1, r1, k1⟩ => ?_)
  cases u with
  | int i => cases r1; exact ⟨i, rfl, k1 _ _ _ Gr.refl s1 rfl⟩
  | _ => exact False.elim k1
def fSl (Fe : FxE) (Fl Fh : FxO) : FxE := fun η T => (Fe η T).bind fun u T1 => (Fl η T1).bind fun lo T2 => (Fh η T2).bind fun hi T3 => gCut lo hi u T3
theorem cut_rel {K : PySem.W.Frag} {ρ : List Addr} {H : Hp} {us : List U} {vs : List V} (r : RVs K ρ H us vs) (lo hi : Option Int) : RVs K ρ H (cutU us lo hi) (cutV vs lo hi) := by
  unfold cutU cutV
  rw [r.length]
  exact (r.drop _).take _
theorem cut_whole {K : PySem.W.Frag} {ρ : List Addr} {H : Hp} {us : List U} {vs : List V} {lo hi : Option Int} (r : RVs K ρ H us vs) (h1 : HT.sIx vs.length 0 lo = 0) (h2 : HT.sIx vs.length vs.length hi = vs.length) : cutU us lo hi = us := by
  unfold cutU
  rw [r.length, h1, h2, List.drop_zero, Nat.sub_zero, ← r.length, List.take_length]
theorem fe_slice {e : Expr} {lo hi : Option Expr} {p2 : Pos} {Fe : FxE} {Fl Fh : FxO} (he : FE X E e Fe) (hl : FO X E lo Fl) (hh : FO X E hi Fh) : FE X E (.Subscript e (.Slice lo hi none p2) pos) (fSl Fe Fl Fh) := by
  obtain ⟨t, k, q⟩ := he
  obtain ⟨tl, kl, ql⟩ := hl
  obtain ⟨th, kh, qh⟩ := hh
  refine ⟨_, pe_slice (SlR.or sl_tupA sl_list) k kl kh, fun σ H ρ T η Q s re h => ?_⟩
  refine q σ H ρ T η _ s re (OK.mono (OK.bind h) fun x H1 ⟨ρ1, T1, u, g1, s1, r1, k1⟩ => ?_)
  refine ql σ H1 ρ1 T1 η _ s1 (re.gr g1) (OK.mono (OK.bind k1) fun lo' H2 ⟨ρ2, T2, l2, g2, s2, r2, k2⟩ => ?_)
  cases r2
  refine qh σ H2 ρ2 T2 η _ s2 (re.gr (g1.trans g2)) (OK.mono (OK.bind k2) fun hi' H3 ⟨ρ3, T3, l3, g3, s3, r3, k3⟩ => ?_)
  cases r3
  have r1 := RV.gr r1 (g2.trans g3)
  unfold gCut at k3
  split at k3
  · match r1 with
    | .tup (a := a) (vs := vs) sq rs =>
      have cr := cut_rel rs lo' hi'
      refine .inl ⟨a, vs, rfl, sq, fun ⟨h1, h2⟩ => ?_, fun _ p n => okTup s3 k3 cr n⟩
      rw [cut_whole rs h1 h2] at k3
      exact okV s3 k3 (.tup sq rs)
  · split at k3
    · rename_i xs ex
      match r1 with
      | .ob ea =>
        obtain ⟨b, p, vs, f1, rs⟩ := s3.get ex
        rw [ea] at p
        cases p
        exact .inr ⟨_, vs, rfl, SqL.of f1, fun p n => okNew s3 k3 (cut_rel rs lo' hi') n⟩
    · exact False.elim k3
  · exact False.elim k3
end
/-! ### built-ins -/
def seqU (T : Sto) : U → Option (List U)
  | .tup xs => some xs
  | .scr ns => some (ns.map .int)
  | .ob k => match T[k]? with
    | some (.lst xs) => some xs
    | _ => none
  | _ => none
def gLen : List U → M U := fun us T => match us with
  | [.str z] => if z.length ≤ 16777216 then .ok (.int z.length) T else .no
  | [u] => match seqU T u with
    | some xs => .ok (.int xs.length) T
    | none => .no
  | _ => .no
def gAbs : List U → M U := fun us T => match us with
  | [.int i] => .ok (.int (if i < 0 then -i else i)) T
  | _ => .no
def gInt : List U → M U := fun us T => match us with
  | [.int i] => .ok (.int i) T
  | [.bl b] => .ok (.int (if b then 1 else 0)) T
  | [.str a] => match PySem.intText? a with
    | some n => if a.length ≤ 640 then .ok (.int n) T else .no
    | none => .no
  | _ => .no
def gMax2 : List U → M U := fun us T => match us with
  | [.int i, .int j] => .ok (.int (if j > i then j else i)) T
  | _ => .no
def gMin2 : List U → M U := fun us T => match us with
  | [.int i, .int j] => .ok (.int (if j < i then j else i)) T
  | _ => .no
def blsU : List U → Option (List Bool)
  | [] => some []
  | .bl b :: us => (blsU us).map (b :: ·)
  | _ :: _ => none
def intsU : List U → Option (List Int)
  | [] => some []
  | .int b :: us => (intsU us).map (b :: ·)
  | _ :: _ => none
def lstU (T : Sto) : U → Option (List U)
  | .ob k => match T[k]? with
    | some (.lst xs) => some xs
    | _ => none
  | .scr ns => some (ns.map .int)
  | _ => none
def gAll : List U → M U := fun us T => match us with
  | [u] => match (lstU T u).bind blsU with
    | some bs => .ok (.bl (bs.all id)) T
    | none => .no
  | _ => .no
def gAny : List U → M U := fun us T => match us with
  | [u] => match (lstU T u).bind blsU with
    | some bs => .ok (.bl (bs.any id)) T
    | none => .no
  | _ => .no
def gSum : List U → M U := fun us T => match us with
  | [u] => match (lstU T u).bind intsU with
    | some ns => .ok (.int ns.sum) T
    | none => .no
  | _ => .no
def gList : List U → M U := fun us T => match us with
  | [u] => match seqU T u with
    | some xs => nw (.lst xs) T
    | none => .no
  | _ => .no
def gTuple : List U → M U := fun us T => match us with
  | [u] => match seqU T u with
    | some xs => .ok (.tup xs) T
    | none => .no
  | _ => .no
section
variable {K : PySem.W.Frag} {ρ : List Addr} {H : Hp} {T : Sto}
theorem seqU_ok {u : U} {v : V} {xs : List U} (s : RS K ρ H T) (r : RV K ρ H u v) (e : seqU T u = some xs) : ∃ (a : Addr) (vs : List V), v = .ref a ∧ (SqL K H a vs ∨ SqT K H a vs) ∧ RVs K ρ H xs vs ∧ ((∃ us, u = .tup us) → SqT K H a vs) ∧ ((∀ us, u ≠ .tup us) → SqL K H a vs) := by
  cases r with
  | tup sq rs => cases e; exact ⟨_, _, rfl, .inr sq, rs, fun _ => sq, fun h => absurd rfl (h _)⟩
  | scr q => cases e; exact ⟨_, _, rfl, .inl q.sq, RVs.ints _, (fun ⟨_, z⟩ => by cases z), fun _ => q.sq⟩
  | @ob k a ea =>
    have e : (match T[k]? with
      | some (.lst xs) => some xs
      | _ => none) = some xs := e
    split at e
    · rename_i ys ex
      cases e
      obtain ⟨b, p, vs, f1, rs⟩ := s.get ex
      rw [ea] at p
      cases p
      exact ⟨a, vs, rfl, .inl (SqL.of f1), rs, (fun ⟨_, z⟩ => by cases z), fun _ => SqL.of f1⟩
    · cases e
  | _ => cases e
theorem lstU_ok {u : U} {v : V} {xs : List U} (s : RS K ρ H T) (r : RV K ρ H u v) (e : lstU T u = some xs) : ∃ a vs, v = .ref a ∧ SqL K H a vs ∧ RVs K ρ H xs vs := by
  cases r with
  | scr q => cases e; exact ⟨_, _, rfl, q.sq, RVs.ints _⟩
  | @ob k a ea =>
    have e : (match T[k]? with
      | some (.lst xs) => some xs
      | _ => none) = some xs := e
    split at e
    · rename_i ys ex
      cases e
      obtain ⟨b, p, vs, f1, rs⟩ := s.get ex
      rw [ea] at p
      cases p
      exact ⟨a, vs, rfl, SqL.of f1, rs⟩
    · cases e
  | _ => cases e
theorem blsU_ok : ∀ {us : List U} {vs : List V} {bs : List Bool}, RVs K ρ H us vs → blsU us = some bs → vs = bs.map V.bl
  | _, _, _, .nil, e => by cases e; rfl
  | u :: us, _, bs, .cons r rs, e => by
    cases u with
    | bl b =>
      obtain ⟨cs, h1, h2⟩ := Option.map_eq_some_iff.mp e
      subst h2
      cases r
      rw [blsU_ok rs h1]
      rfl
    | _ => cases e
theorem intsU_ok : ∀ {us : List U} {vs : List V} {bs : List Int}, RVs K ρ H us vs → intsU us = some bs → vs = bs.map V.int
  | _, _, _, .nil, e => by cases e; rfl
  | u :: us, _, bs, .cons r rs, e => by
    cases u with
    | int b =>
      obtain ⟨cs, h1, h2⟩ := Option.map_eq_some_iff.mp e
      subst h2
      cases r
      rw [intsU_ok rs h1]
      rfl
    | _ => cases e
end
section
variable {X : Cx} {E : XK} {pos : Pos}
theorem fcl_len : FCall X E (.builtin "len") gLen := by
  refine ⟨_, CallR.or call_len_str call_len_seq, fun ρ H T us xs Q s r h => ?_⟩
  unfold gLen at h
  split at h
  · match r with
    | .cons (.str z) .nil =>
      split at h
      · rename_i hz
        exact .inl ⟨_, rfl, by rw [sz16]; exact hz, okV s h (.int _)⟩
      · exact False.elim h
  · split at h
    · rename_i xs e
      match r with
      | .cons r .nil =>
        obtain ⟨a, vs, rfl, q, rs, _⟩ := seqU_ok s r e
        exact .inr ⟨a, vs, rfl, q, by rw [← rs.length]; exact okV s h (.int _)⟩
    · exact False.elim h
  · exact False.elim h
theorem fcl_abs : FCall X E (.builtin "abs") gAbs := by
  refine ⟨_, call_abs, fun ρ H T us xs Q s r h => ?_⟩
  unfold gAbs at h
  split at h
  · match r with
    | .cons (.int _) .nil => exact ⟨_, rfl, okV s h (.int _)⟩
  · exact False.elim h
theorem fcl_int : FCall X E (.type "int") gInt := by
  refine ⟨_, CallR.or call_int1 call_int_str, fun ρ H T us xs Q s r h => ?_⟩
  unfold gInt at h
  split at h
  · match r with
    | .cons (.int _) .nil => exact .inl (.inl ⟨_, rfl, okV s h (.int _)⟩)
  · match r with
    | .cons (.bl _) .nil => exact .inl (.inr ⟨_, rfl, okV s h (.int _)⟩)
  · split at h
    · rename_i n e
      split at h
      · rename_i hl
        match r with
        | .cons (.str _) .nil => exact .inr ⟨_, _, rfl, e, hl, okV s h (.int _)⟩
      · exact False.elim h
    · exact False.elim h
  · exact False.elim h
theorem fcl_max2 (hc : X.calm = true) : FCall X E (.builtin "max") gMax2 := by
  refine ⟨_, call_max2 hc, fun ρ H T us xs Q s r h => ?_⟩
  unfold gMax2 at h
  split at h
  · match r with
    | .cons (.int _) (.cons (.int _) .nil) => exact ⟨_, _, rfl, okV s h (.int _)⟩
  · exact False.elim h
theorem fcl_min2 (hc : X.calm = true) : FCall X E (.builtin "min") gMin2 := by
  refine ⟨_, call_min2 hc, fun ρ H T us xs Q s r h => ?_⟩
  unfold gMin2 at h
  split at h
  · match r with
    | .cons (.int _) (.cons (.int _) .nil) => exact ⟨_, _, rfl, okV s h (.int _)⟩
  · exact False.elim h
theorem fcl_all (hc : X.calm = true) : FCall X E (.builtin "all") gAll := by
  refine ⟨_, cr_all hc, fun ρ H T us xs Q s r h => ?_⟩
  unfold gAll at h
  split at h
  · split at h
    · rename_i bs e
      obtain ⟨ys, e1, e2⟩ := Option.bind_eq_some_iff.mp e
      match r with
      | .cons r .nil =>
        obtain ⟨a, vs, rfl, q, rs⟩ := lstU_ok s r e1
        rw [blsU_ok rs e2] at q
        exact ⟨a, bs, rfl, q, okV s h (.bl _)⟩
    · exact False.elim h
  · exact False.elim h
theorem fcl_any (hc : X.calm = true) : FCall X E (.builtin "any") gAny := by
  refine ⟨_, cr_any hc, fun ρ H T us xs Q s r h => ?_⟩
  unfold gAny at h
  split at h
  · split at h
    · rename_i bs e
      obtain ⟨ys, e1, e2⟩ := Option.bind_eq_some_iff.mp e
      match r with
      | .cons r .nil =>
        obtain ⟨a, vs, rfl, q, rs⟩ := lstU_ok s r e1
        rw [blsU_ok rs e2] at q
        exact ⟨a, bs, rfl, q, okV s h (.bl _)⟩
    · exact False.elim h
  · exact False.elim h
theorem fcl_sum (hc : X.calm = true) : FCall X E (.builtin "sum") gSum := by
  refine ⟨_, cr_sum hc, fun ρ H T us xs Q s r h => ?_⟩
  unfold gSum at h
  split at h
  · split at h
    · rename_i bs e
      obtain ⟨ys, e1, e2⟩ := Option.bind_eq_some_iff.mp e
      match r with
      | .cons r .nil =>
        obtain ⟨a, vs, rfl, q, rs⟩ := lstU_ok s r e1
        rw [intsU_ok rs e2] at q
        exact ⟨a, bs, rfl, q, okV s h (.int _)⟩
    · exact False.elim h
  · exact False.elim h
theorem fcl_list : FCall X E (.type "list") gList := by
  refine ⟨_, call_list_of, fun ρ H T us xs Q s r h => ?_⟩
  unfold gList at h
  split at h
  · split at h
    · rename_i ys e
      match r with
      | .cons r .nil =>
        obtain ⟨a, vs, rfl, q, rs, _⟩ := seqU_ok s r e
        exact ⟨a, vs, rfl, q, fun p n => okNew s h rs n⟩
    · exact False.elim h
  · exact False.elim h
theorem fcl_tuple : FCall X E (.type "tuple") gTuple := by
  refine ⟨_, call_tuple_of, fun ρ H T us xs Q s r h => ?_⟩
  unfold gTuple at h
  split at h
  · rename_i u
    split at h
    · rename_i ys e
      match r with
      | .cons r .nil =>
        obtain ⟨a, vs, rfl, q, rs, ht, hl⟩ := seqU_ok s r e
        by_cases z : ∃ us, u = U.tup us
        · obtain ⟨zs, rfl⟩ := z
          cases e
          exact ⟨a, vs, rfl, .inr ⟨ht ⟨_, rfl⟩, okV s h (.tup (ht ⟨_, rfl⟩) rs)⟩⟩
        · exact ⟨a, vs, rfl, .inl ⟨hl fun us e => z ⟨us, e⟩, fun p n => okTup s h rs n⟩⟩
    · exact False.elim h
  · exact False.elim h
/-! ### list(range(..)) -/
def gListRg1 : List U → M U := fun us T => match us with
  | [.int j] => if j ≤ 16777216 ∧ -4611686018427387904 ≤ j then nw (.lst (rgU 0 j.toNat)) T else .no
  | _ => .no
def gListRg2 : List U → M U := fun us T => match us with
  | [.int i, .int j] => if -16777216 ≤ i ∧ i ≤ 16777216 ∧ -16777216 ≤ j ∧ j ≤ 16777216 ∧ j - i ≤ 16777216 then nw (.lst (rgU i (j - i).toNat)) T else .no
  | _ => .no
theorem rg_rel {K : PySem.W.Frag} {ρ : List Addr} {H : Hp} (a b : Int) : RVs K ρ H (rgU a (b - a).toNat) (rgV a b) := by
  unfold rgU rgV
  generalize List.range (b - a).toNat = l
  induction l with
  | nil => exact .nil
  | cons x l ih => exact .cons (.int _) ih
theorem fe_listRg1 {a : Expr} {Fa : FxE} {p p2 pos2 : Pos} (hc : X.calm = true) (hg : Gl X "list") (hm : X.mg "list" = none) (hg2 : Gl X "range") (hm2 : X.mg "range" = none) (ha : FE X E a Fa)
    (na : starEach [a] X.env = (false, eval a X.env) :: starEach [] X.env := by rfl) (na2 : starEach [.Call (.Name "range" p2) [a] [] pos2] X.env = (false, eval (.Call (.Name "range" p2) [a] [] pos2) X.env) :: starEach [] X.env := by rfl) :
    FE X E (.Call (.Name "list" p) [.Call (.Name "range" p2) [a] [] pos2] [] pos) (fCall gListRg1 (fCons Fa fNil)) := by
  obtain ⟨t, k, q⟩ := ha
  refine ⟨_, pe_listRg hc hg hm (prg_1 hg2 hm2 k na) na2, fun σ H ρ T η Q s re h => ?_⟩
  have h1 := OK.bind (rel := rVs X.K) h
  have h : OK X.K ρ H E (rV X.K) ((Fa η T).bind fun u T1 => gListRg1 [u] T1) Q := by
    have e : (fCall gListRg1 (fCons Fa fNil)) η T = (Fa η T).bind fun u T1 => gListRg1 [u] T1 := by
      unfold fCall fCons fNil
      cases Fa η T <;> rfl
    rw [e] at h
    exact h
  refine q σ H ρ T η _ s re (OK.mono (OK.bind h) fun x H1 ⟨ρ1, T1, u, g1, s1, r1, k1⟩ => ?_)
  unfold gListRg1 at k1
  split at k1
  · rename_i j e
    cases e
    cases r1
    split at k1
    · rename_i hj
      refine ⟨j, rfl, ⟨by omega, by omega, by omega, by omega, by omega⟩, fun p n => okNew s1 k1 ?_ n⟩
      have := rg_rel (K := X.K) (ρ := ρ1) (H := H1) 0 j
      rw [Int.sub_zero] at this
      exact this
    · exact False.elim k1
  · exact False.elim k1
theorem fe_listRg2 {a b : Expr} {Fa Fb : FxE} {p p2 pos2 : Pos} (hc : X.calm = true) (hg : Gl X "list") (hm : X.mg "list" = none) (hg2 : Gl X "range") (hm2 : X.mg "range" = none) (ha : FE X E a Fa) (hb : FE X E b Fb)
    (na : starEach [a, b] X.env = (false, eval a X.env) :: starEach [b] X.env := by rfl) (nb : starEach [b] X.env = (false, eval b X.env) :: starEach [] X.env := by rfl) (hpb : (backTo pos2 (starEach [b] X.env)).any (·.1) = false := by rfl) (na2 : starEach [.Call (.Name "range" p2) [a, b] [] pos2] X.env = (false, eval (.Call (.Name "range" p2) [a, b] [] pos2) X.env) :: starEach [] X.env := by rfl) :
    FE X E (.Call (.Name "list" p) [.Call (.Name "range" p2) [a, b] [] pos2] [] pos) (fCall gListRg2 (fCons Fa (fCons Fb fNil))) := by
  obtain ⟨t, k, q⟩ := ha
  obtain ⟨t2, k2, q2⟩ := hb
  refine ⟨_, pe_listRg hc hg hm (prg_2 hg2 hm2 k k2 na nb hpb) na2, fun σ H ρ T η Q s re h => ?_⟩
  have h : OK X.K ρ H E (rV X.K) ((Fa η T).bind fun u T1 => (Fb η T1).bind fun w T2 => gListRg2 [u, w] T2) Q := by
    have e : (fCall gListRg2 (fCons Fa (fCons Fb fNil))) η T = (Fa η T).bind fun u T1 => (Fb η T1).bind fun w T2 => gListRg2 [u, w] T2 := by
      unfold fCall fCons fNil
      cases Fa η T with
      | no => rfl
      | ex _ _ => rfl
      | ok u T1 => dsimp only [R.bind]; cases Fb η T1 <;> rfl
    rw [e] at h
    exact h
  refine q σ H ρ T η _ s re (OK.mono (OK.bind h) fun x H1 ⟨ρ1, T1, u, g1, s1, r1, k1⟩ => ?_)
  refine q2 σ H1 ρ1 T1 η _ s1 (re.gr g1) (OK.mono (OK.bind k1) fun y H2 ⟨ρ2, T2, w, g2, s2, r2, k3⟩ => ?_)
  have r1 := RV.gr r1 g2
  unfold gListRg2 at k3
  split at k3
  · rename_i i j e
    cases e
    cases r1
    cases r2
    split at k3
    · rename_i hj
      exact ⟨i, j, rfl, rfl, ⟨by omega, by omega, by omega, by omega, by omega⟩, fun p n => okNew s2 k3 (rg_rel i j) n⟩
    · exact False.elim k3
  · exact False.elim k3
/-! ### isinstance with a built-in type -/
def tyU (T : Sto) : U → Option String
  | .non => some "NoneType"
  | .bl _ => some "bool"
  | .int _ => some "int"
  | .str _ => some "str"
  | .tup _ => some "tuple"
  | .scr _ => some "list"
  | .ob k => match T[k]? with
    | some (.lst _) => some "list"
    | some (.dic _) => some "dict"
    | _ => none
  | .raw _ => none
def gIsi : List U → M U := fun us T => match us with
  | [u, .raw (.ty n)] => match tyU T u with
    | some t => match kitB t n with
      | some b => .ok (.bl b) T
      | none => .no
    | none => .no
  | _ => .no
theorem tyU_ok {K : PySem.W.Frag} {ρ : List Addr} {H : Hp} {T : Sto} {u : U} {v : V} {t : String} (s : RS K ρ H T) (r : RV K ρ H u v) (e : tyU T u = some t) : TyX K H v (.type t) := by
  cases r with
  | non => cases e; exact .base .non
  | bl b => cases e; exact .base (.bl b)
  | int b => cases e; exact .base (.int b)
  | str b => cases e; exact .base (.str b)
  | tup sq rs =>
    cases e
    rcases sq with (q | ⟨o, q⟩) | ⟨o, its, n, h1, h2, _⟩
    · exact .base (.tup q)
    · exact .fTuple q
    · exact .kTuple h1 h2
  | scr q =>
    cases e
    rcases q with ⟨o, q⟩ | ⟨o, its, n, h1, h2, _⟩
    · exact .base (.frz q)
    · exact .kList h1 h2
  | @ob k a ea =>
    have e : (match T[k]? with
      | some (.lst _) => some "list"
      | some (.dic _) => some "dict"
      | _ => none) = some t := e
    split at e
    · rename_i xs ex
      cases e
      obtain ⟨b, p, vs, f1, rs⟩ := s.get ex
      rw [ea] at p
      cases p
      exact .base (.lst f1)
    · rename_i xs ex
      cases e
      obtain ⟨b, p, f⟩ := s.get ex
      rw [ea] at p
      cases p
      rcases f with ⟨ks, f, _⟩ | ⟨ks, f, _⟩
      · exact .base (.dK f)
      · exact .base (.dT f)
    · cases e
  | raw v => cases e
theorem fcl_isi : FCall X E (.builtin "isinstance") gIsi := by
  refine ⟨_, call_isi, fun ρ H T us xs Q s r h => ?_⟩
  unfold gIsi at h
  split at h
  · split at h
    · rename_i t et
      split at h
      · rename_i b eb
        match r with
        | .cons r (.cons (.raw _) .nil) => exact ⟨_, _, _, _, b, rfl, .ty _, tyU_ok s r et, kit_ty eb, okV s h (.bl _)⟩
      · exact False.elim h
    · exact False.elim h
  · exact False.elim h
/-- a built-in type by its name -/
theorem fe_ty {x : Str} {n : String} {pos : Pos} (hg : Gl X x) (hm : X.mg x = none) (hv : bootBuiltins x = some (.type n)) (hn : x ≠ "__name__" := by decide) (hd : (x == ("__debug__" : Str)) = false := by decide) : FE X E (.Name x pos) (fC (.raw (.ty n))) :=
  ⟨_, pe_bltn (v := .ty n) hg hm hv rfl hn hd, fun _ _ _ _ _ _ s _ h => okV s h (.raw _)⟩
/-- a module's int, text -/
theorem fe_gint {x : Str} {i : Int} {t : Tok} {pos : Pos} (hg : Gl X x) (hm : X.mg x = some (.int i t)) (hd : (x == ("__debug__" : Str)) = false := by decide) : FE X E (.Name x pos) (fC (.int i)) := ⟨_, pe_glob (v := .int i) hg hm ⟨t, rfl⟩ hd, fun _ _ _ _ _ _ s _ h => okV s h (.int i)⟩
theorem fe_gstr {x : Str} {z : Str} {t : Tok} {pos : Pos} (hg : Gl X x) (hm : X.mg x = some (.str z t)) (hd : (x == ("__debug__" : Str)) = false := by decide) : FE X E (.Name x pos) (fC (.str z)) := ⟨_, pe_glob (v := .str z) hg hm ⟨t, rfl⟩ hd, fun _ _ _ _ _ _ s _ h => okV s h (.str z)⟩
/-! ### methods of lists -/
def FMt (X : Cx) (E : XK) (id : String) (g : U → List U → M U) : Prop :=
  ∃ r : V → List V → Hp → VK → Prop, MtR X id r ∧ ∀ (ρ : List Addr) (H : Hp) (T : Sto) (o : U) (us : List U) (x : V) (xs : List V) (Q : V → Hp → Prop), RS X.K ρ H T → RV X.K ρ H o x → RVs X.K ρ H us xs → OK X.K ρ H E (rV X.K) (g o us T) Q → r x xs H Q
def isL (T : Sto) : U → Bool
  | .ob k => match T[k]? with
    | some (.lst _) => true
    | _ => false
  | .scr _ => true
  | _ => false
def fMeth (is : Sto → U → Bool) (g : U → List U → M U) (Fo : FxE) (Fr : FxA) : FxE := fun η T => (Fo η T).bind fun o T1 => if is T1 o = true then (Fr η T1).bind fun us T2 => g o us T2 else .no
theorem isL_ok {K : PySem.W.Frag} {ρ : List Addr} {H : Hp} {T : Sto} {u : U} {v : V} (s : RS K ρ H T) (r : RV K ρ H u v) (e : isL T u = true) : tyV K "list" v H := by
  cases r with
  | scr q => exact .inl ⟨rfl, _, q.sq⟩
  | @ob k a ea =>
    have e : (match T[k]? with
      | some (.lst _) => true
      | _ => false) = true := e
    split at e
    · rename_i xs ex
      obtain ⟨b, p, vs, f1, rs⟩ := s.get ex
      rw [ea] at p
      cases p
      exact .inl ⟨rfl, _, SqL.of f1⟩
    · cases e
  | _ => cases e
theorem fe_lm0 {o : Expr} {name : Str} {id : String} {apos cpos : Pos} {g : U → List U → M U} {Fo : FxE} (slot : Slot "list" name id) (hty : typeOf (.builtin id) = pure (.type "method_descriptor")) (hm : FMt X E id g) (ho : FE X E o Fo)
    (hbase : attributeBase o name X.env (eval o X.env) = eval o X.env := by rfl) (hline : (apos.endLine == cpos.line) = true := by rfl) : FE X E (.Call (.Attribute o name apos) [] [] cpos) (fMeth isL g Fo fNil) := by
  obtain ⟨r, h1, h2⟩ := hm
  obtain ⟨t, k, q⟩ := ho
  refine ⟨_, pe_bm0 PySem.F.plainAttrs_list slot hty h1 k hbase hline, fun σ H ρ T η Q s re h => ?_⟩
  refine q σ H ρ T η _ s re (OK.mono (OK.bind h) fun x H1 ⟨ρ1, T1, u, g1, s1, r1, k1⟩ => ?_)
  split at k1
  · rename_i hi
    exact ⟨isL_ok s1 r1 hi, h2 ρ1 H1 T1 u [] x [] Q s1 r1 .nil k1⟩
  · exact False.elim k1
theorem fe_lm {o e : Expr} {es : List Expr} {name : Str} {id : String} {apos cpos : Pos} {g : U → List U → M U} {Fo : FxE} {Fr : FxA} (slot : Slot "list" name id) (hty : typeOf (.builtin id) = pure (.type "method_descriptor")) (hm : FMt X E id g) (ho : FE X E o Fo) (ha : FA X E (e :: es) Fr)
    (hbase : attributeBase o name X.env (eval o X.env) = eval o X.env := by rfl)
    (hfew : ((backTo cpos (starEach (e :: es) X.env)).all (fun x => !x.1) && (backToKw cpos (keywordEach [] X.env)).all (fun x => x.1.isSome)
      && decide ((e :: es).length + ([] : List Keyword).length + (if ([] : List Keyword).isEmpty then 0 else 1) < 30)) = true := by rfl)
    (hline : (apos.endLine == cpos.line) = true := by rfl) (hs : starEach (e :: es) X.env = (false, eval e X.env) :: starEach es X.env := by rfl) (hplain : (backTo cpos (starEach es X.env)).any (·.1) = false := by rfl) :
    FE X E (.Call (.Attribute o name apos) (e :: es) [] cpos) (fMeth isL g Fo Fr) := by
  obtain ⟨r, h1, h2⟩ := hm
  obtain ⟨t, k, q⟩ := ho
  obtain ⟨ta, ka, qa⟩ := ha
  refine ⟨_, pe_bm PySem.F.plainAttrs_list slot hty h1 k ka hbase hfew hline hs hplain, fun σ H ρ T η Q s re h => ?_⟩
  refine q σ H ρ T η _ s re (OK.mono (OK.bind h) fun x H1 ⟨ρ1, T1, u, g1, s1, r1, k1⟩ => ?_)
  split at k1
  · rename_i hi
    refine ⟨isL_ok s1 r1 hi, qa σ H1 ρ1 T1 η _ s1 (re.gr g1) (OK.mono (OK.bind k1) fun xs H2 ⟨ρ2, T2, us, g2, s2, r2, k2⟩ => h2 ρ2 H2 T2 u us x xs Q s2 (RV.gr r1 g2) r2 k2)⟩
  · exact False.elim k1
def gAppend : U → List U → M U := fun o us T => match o, us with
  | .ob k, [u] => match T[k]? with
    | some (.lst xs) => if xs.length < 16777216 then .ok .non (T.set k (.lst (xs ++ [u]))) else .no
    | _ => .no
  | _, _ => .no
def gExtend : U → List U → M U := fun o us T => match o, us with
  | .ob k, [.ob j] => match T[k]?, T[j]? with
    | some (.lst xs), some (.lst ys) => if xs.length + ys.length ≤ 16777216 then .ok .non (T.set k (.lst (xs ++ ys))) else .no
    | _, _ => .no
  | _, _ => .no
def gPop : U → List U → M U := fun o us T => match o, us with
  | .ob k, [] => match T[k]? with
    | some (.lst xs) => match xs[xs.length - 1]? with
      | some u => .ok u (T.set k (.lst xs.dropLast))
      | none => .no
    | _ => .no
  | _, _ => .no
def gReverse : U → List U → M U := fun o us T => match o, us with
  | .ob k, [] => match T[k]? with
    | some (.lst xs) => .ok .non (T.set k (.lst xs.reverse))
    | _ => .no
  | _, _ => .no
theorem okPut {u : U} {v : V} {ρ : List Addr} {H : Hp} {T : Sto} {Q : V → Hp → Prop} {k : Nat} {a : Addr} {us : List U} {vs : List V} (s : RS X.K ρ H T) (e : ρ[k]? = some a) (h : OK X.K ρ H E (rV X.K) (.ok u (T.set k (.lst us))) Q) (r : RVs X.K ρ H us vs) (rv : RV X.K ρ H u v) : Q v (upd H a (.lst vs)) :=
  have g : Gr X.K ρ H ρ (upd H a (.lst vs)) := Gr.put s e
  h ρ _ v g (s.put e ⟨vs, upd_same, r.gr g⟩) (rv.gr g)
theorem RVs.dropLast {K : PySem.W.Frag} {ρ : List Addr} {H : Hp} {us : List U} {vs : List V} (r : RVs K ρ H us vs) : RVs K ρ H us.dropLast vs.dropLast := by
  rw [List.dropLast_eq_take, List.dropLast_eq_take, r.length]
  exact r.take _
theorem fmt_append : FMt X E "list.append" gAppend := by
  refine ⟨_, mt_append, fun ρ H T o us x xs Q s ro r h => ?_⟩
  unfold gAppend at h
  split at h
  · rename_i k u
    split at h
    · rename_i ys ey
      split at h
      · rename_i hl
        match ro, r with
        | .ob (a := a) ea, .cons r .nil =>
          obtain ⟨b, p, vs, f1, rs⟩ := s.get ey
          rw [ea] at p
          cases p
          exact ⟨a, vs, _, rfl, rfl, f1, by rw [sz16, ← rs.length]; exact hl, okPut s ea h (rs.append (.cons r .nil)) .non⟩
      · exact False.elim h
    · exact False.elim h
  · exact False.elim h
theorem fmt_extend : FMt X E "list.extend" gExtend := by
  refine ⟨_, mt_extend, fun ρ H T o us x xs Q s ro r h => ?_⟩
  unfold gExtend at h
  split at h
  · rename_i k j
    split at h
    · rename_i ys zs ey ez
      split at h
      · rename_i hl
        match ro, r with
        | .ob (a := a) ea, .cons (.ob (a := b) eb) .nil =>
          obtain ⟨a', p, vs, f1, rs⟩ := s.get ey
          rw [ea] at p
          cases p
          obtain ⟨b', p, ws, f2, rs2⟩ := s.get ez
          rw [eb] at p
          cases p
          exact ⟨a, b, vs, ws, rfl, rfl, f1, f2, by rw [sz16, ← rs.length, ← rs2.length]; exact hl, okPut s ea h (rs.append rs2) .non⟩
      · exact False.elim h
    · exact False.elim h
  · exact False.elim h
theorem fmt_pop : FMt X E "list.pop" gPop := by
  refine ⟨_, mt_pop, fun ρ H T o us x xs Q s ro r h => ?_⟩
  unfold gPop at h
  split at h
  · rename_i k
    split at h
    · rename_i ys ey
      split at h
      · rename_i u eu
        match ro, r with
        | .ob (a := a) ea, .nil =>
          obtain ⟨b, p, vs, f1, rs⟩ := s.get ey
          rw [ea] at p
          cases p
          obtain ⟨v, h1, h2⟩ := rs.get eu
          exact ⟨a, vs, v, rfl, rfl, f1, by rw [← rs.length]; exact h1, okPut s ea h rs.dropLast h2⟩
      · exact False.elim h
    · exact False.elim h
  · exact False.elim h
theorem fmt_reverse : FMt X E "list.reverse" gReverse := by
  refine ⟨_, mt_reverse, fun ρ H T o us x xs Q s ro r h => ?_⟩
  unfold gReverse at h
  split at h
  · rename_i k
    split at h
    · rename_i ys ey
      match ro, r with
      | .ob (a := a) ea, .nil =>
        obtain ⟨b, p, vs, f1, rs⟩ := s.get ey
        rw [ea] at p
        cases p
        exact ⟨a, vs, rfl, rfl, f1, okPut s ea h rs.reverse .non⟩
    · exact False.elim h
  · exact False.elim h
/-! ### name op= e -/
def fAug (i : Nat) (g : U → U → M U) (Fe : FxE) : FxS := fun η T => match η[i]? with
  | some (some u) => (Fe η T).bind fun w T1 => (g u w T1).bind fun z T2 => .ok (.nx, η.set i (some z)) T2
  | _ => .no
theorem fs_aug {i : Nat} {x : Str} {e : Expr} {Fe : FxE} {op : Operator} {g : U → U → M U} {pos' : Pos} (hN : X.N.Nodup) (hi : X.N[i]? = some x) (hx : Loc X.env.scope x) (ho : FOp X E (inplaceOp op) g) (he : FE X E e Fe)
    (hf : X.fn x = true ∨ X.env.scope.names.lookup x = some .local := by first | exact .inl rfl | exact .inr rfl | assumption) : FS X E (.AugAssign (.Name x pos') op e pos) (fAug i g Fe) := by
  obtain ⟨t, k, q⟩ := he
  obtain ⟨r, h1, h2⟩ := ho
  refine ⟨_, ps_aug hN hi hx k (fun pins s σ H x y v u Q I rx ry q => h1 pins s σ H x y v u Q I rx ry q) hf, fun σ H ρ T η D s re h => ?_⟩
  unfold fAug at h
  split at h
  · rename_i u eu
    obtain ⟨v, e1, e2⟩ := re.at_ i u eu
    refine ⟨v, e1, q σ H ρ T η _ s re (OK.mono (OKS.bind h) fun y H1 ⟨ρ1, T1, w, g1, s1, r1, k1⟩ => ?_)⟩
    exact h2 ρ1 H1 T1 u w v y _ s1 (e2.gr g1) r1 (OK.mono (OKS.bind k1) fun z H2 ⟨ρ2, T2, uz, g2, s2, r2, k2⟩ => k2 _ _ _ Gr.refl s2 ((re.gr (g1.trans g2)).set i r2))
  · exact False.elim h
def gIAdd : U → U → M U
  | .int i, .int j, T => .ok (.int (i + j)) T
  | _, _, _ => .no
theorem fop_iadd : FOp X E (inplaceOp .Add) gIAdd := by
  refine ⟨_, iop_add, fun ρ H T u w x y Q s ru rw h => ?_⟩
  cases u with
  | int i =>
    cases w with
    | int j => cases ru; cases rw; exact ⟨i, j, rfl, rfl, okV s h (.int _)⟩
    | _ => exact False.elim h
  | _ => exact False.elim h
theorem fop_isub : FOp X E (inplaceOp .Sub) gSub := by
  refine ⟨_, iop_sub, fun ρ H T u w x y Q s ru rw h => ?_⟩
  cases u with
  | int i =>
    cases w with
    | int j => cases ru; cases rw; exact ⟨i, j, rfl, rfl, okV s h (.int _)⟩
    | _ => exact False.elim h
  | _ => exact False.elim h
end
end Lf


set_option Elab.async false
set_option linter.all false
set_option maxRecDepth 100000
set_option maxHeartbeats 4000000
/-! ## the end of a law: its def, called with the script, gives True -/
namespace Lf
open PySem PySem.Spec L2

/-- from a heap in which at most the script is tracked -/
theorem end_core {P : Program} {w : World} {K : PySem.W.Frag} {mg mb : Str → Option Value} {k : Nat} {fa a : Addr} {fd : FuncData} {x : Str} {g : List U → M U} {s : Shared} {vs : List Value} {ns : List Int} {H : Hp}
    (inK : K.In s.heap) (hns : s.heap.Ns mainGlobals mg) (hmb : s.heap.Ns builtinsNs mb) (hbb : ∀ x : Str, x ≠ "__name__" → mb x = bootBuiltins x) (nolim : s.heap.NoLimit) (nogen : s.gens = #[])
    (ha : s.heap.get? a = some { cls := .type "list", data := .seq vs.toArray }) (room : Room k callerA)
    (F : ∀ base : Heap, K.In base → base.Ns mainGlobals mg → FnG P w K mg base CX0 k fa fd [x] g) (bd : ∀ (s : Shared) (u : Value), BindsTo s fd ⟨[u], []⟩ [(x, u)])
    (res : ∃ T, g [.scr ns] [] = .ok (.bl true) T) (hrf : RF K H a (ns.map V.int)) (hok : HOk P w H s.heap) (only : ∀ b, H b ≠ none → b = a ∧ ∃ o xs, H b = some (.frz o (.lst xs))) (offK : H a ≠ none → K.lookup a = none) :
    codeAny (model P w) callerA (.call (.ref fa) ⟨[.ref a], []⟩) (fun r s' => r = .ok (.ret (.bool true)) ∧ OldK s.heap s'.heap ∧ s'.os = s.os ∧ PyProof.Rows.AllBare s'.gens) s := by
  have free : ∀ {b : Addr} {o : Obj} {es : Array DictEntry} {ep : Nat}, s.heap.get? b = some o → o.data = .dict es ep → H b = none := by
    intro b o es ep e d
    cases q : H b with
    | none => rfl
    | some u =>
      have eb := (only b (by rw [q]; simp)).1
      subst eb
      rw [ha] at e
      cases e
      cases d
  have nsT : ∀ {b : Addr} {m : Str → Option Value}, s.heap.Ns b m → (hidT s.heap H).Ns b m := fun {b m} ⟨o, es, ep, e, d, r⟩ => ⟨o, es, ep, hidT_get e (free e d), d, r⟩
  have kinT : K.In (hidT s.heap H) := by
    intro b o e
    refine hidT_get (inK b o e) ?_
    cases q : H b with
    | none => rfl
    | some u =>
      have eb := (only b (by rw [q]; simp)).1
      subst eb
      rw [offK (by rw [q]; simp)] at e
      cases e
  have md : Mod K mg (hidT s.heap H) := ⟨kinT, nsT hns, ⟨mb, nsT hmb, hbb⟩, let ⟨mc, h1, h2⟩ := nolim; ⟨mc, nsT h1, h2⟩⟩
  have e0 : Env0 P w K mg (hidT s.heap H) callerA [] s H := ⟨rfl, md, fun b o e => of_hidT e, Nat.le_of_eq (hidT_size _ _), trivial, fun b hb => absurd (show b ∈ ([] : List Addr) from hb) (by simp), hok, .of_eq nogen⟩
  obtain ⟨T, eT⟩ := res
  have ask : OK K [] H (fun _ _ _ => False) (rV K) (g [.scr ns] []) (fun v _ => v = .bl true) := by
    rw [eT]
    intro ρ' H' b _ _ r
    cases r
    rfl
  refine codeAny_mono ((F _ kinT (nsT hns)).run callerA [] s H ⟨[.ref a], []⟩ [.ref a] [.ref a] [.scr ns] [] [] (fun v _ => v = .bl true) (fun _ _ _ => False) room rfl e0 (bd s (.ref a)) (.cons rfl .nil) rs_nil (.cons (.scr hrf) .nil) rfl ask) fun r s' h => ?_
  match r, h with
  | .error e, h => exact False.elim h
  | .ok .next, h => exact False.elim h
  | .ok .brk, h => exact False.elim h
  | .ok .cont, h => exact False.elim h
  | .ok (.ret u), h =>
    obtain ⟨v, H', os, bare, un, hok', rv, q⟩ := h
    have q : v = .bl true := q
    subst q
    obtain rfl : u = Value.bool true := rv
    refine ⟨rfl, OldK.of_keep fun b o e => ?_, os, bare⟩
    cases q : H b with
    | none => exact un.keep b o e q (fun z => absurd (show b ∈ ([] : List Addr) from z) (by simp)) (by simp)
    | some u =>
      obtain ⟨_, ob, xs, z⟩ := only b (by rw [q]; simp)
      have z2 := un.frzs b ob _ z
      obtain ⟨e1, _⟩ := hok b _ z
      obtain ⟨e2, _⟩ := hok' b _ z2
      rw [e] at e1
      cases e1
      exact e2
theorem law_end {P : Program} {w : World} {K : PySem.W.Frag} {mg mb : Str → Option Value} {k : Nat} {fa a : Addr} {fd : FuncData} {x : Str} {g : List U → M U} {s : Shared} {vs : List Value} {ns : List Int}
    (inK : K.In s.heap) (hns : s.heap.Ns mainGlobals mg) (hmb : s.heap.Ns builtinsNs mb) (hbb : ∀ x : Str, x ≠ "__name__" → mb x = bootBuiltins x) (nolim : s.heap.NoLimit) (nogen : s.gens = #[])
    (ha : s.heap.get? a = some { cls := .type "list", data := .seq vs.toArray }) (hi : PyProof.Rows.IntsAre vs ns) (hl : ns.length ≤ sizeLine) (room : Room k callerA)
    (F : ∀ base : Heap, K.In base → base.Ns mainGlobals mg → FnG P w K mg base CX0 k fa fd [x] g) (bd : ∀ (s : Shared) (u : Value), BindsTo s fd ⟨[u], []⟩ [(x, u)]) (res : ∃ T, g [.scr ns] [] = .ok (.bl true) T) :
    codeAny (model P w) callerA (.call (.ref fa) ⟨[.ref a], []⟩) (fun r s' => r = .ok (.ret (.bool true)) ∧ OldK s.heap s'.heap ∧ s'.os = s.os ∧ PyProof.Rows.AllBare s'.gens) s := by
  have rv := L2.vals_ints hi
  have hlen := hi.length
  cases hk : K.lookup a with
  | some o =>
    have e := inK a o hk
    rw [ha] at e
    cases e
    exact end_core (H := fun _ => none) inK hns hmb hbb nolim nogen ha room F bd res (.inr ⟨_, vs.toArray, _, hk, rfl, rfl, rfl, by rw [List.size_toArray, hlen]; exact hl, by simpa using rv⟩) (fun b u z => by cases z) (fun b z => absurd rfl z) (fun z => absurd rfl z)
  | none =>
    refine end_core (H := fun b => if b = a then some (.frz { cls := .type "list", data := .seq vs.toArray } (.lst (ns.map V.int))) else none) inK hns hmb hbb nolim nogen ha room F bd res (.inl ⟨{ cls := .type "list", data := .seq vs.toArray }, if_pos rfl⟩) (fun b u z => ?_) (fun b z => ?_) (fun _ => hk)
    · by_cases hb : b = a
      · have z := (if_pos hb).symm.trans z
        cases z
        subst hb
        exact ⟨ha, by rw [List.length_map]; exact hl, vs, _, rv, ha⟩
      · have z := (if_neg hb).symm.trans z
        cases z
    · by_cases hb : b = a
      · exact ⟨hb, _, _, if_pos hb⟩
      · exact absurd (if_neg hb) z
theorem walk_end {l : PySem.W.OpenLaw} {n k : Nat} {q : Program} {loose : List Str} {XP : (Str → Option Value) → Heap → Prop} {YP : World → Heap → Prop} {d : DefRec} {x : Str} (hn : l.most = some n) (hn2 : n ≤ sizeLine) (hdf : d.params.defaults = []) (room : Room k callerA)
    (F : ∀ (w : World) (mg : Str → Option Value) (fa : Addr) (h : Heap), YP w h → h.Ns mainGlobals mg → mg d.name = some (.ref fa) → ∃ (K : PySem.W.Frag) (fd : FuncData) (g : List U → M U), K.In h ∧ (∀ (s : Shared) (u : Value), BindsTo s fd ⟨[u], []⟩ [(x, u)]) ∧
        (∀ ns : List Int, ns.length ≤ n → ∃ T, g [.scr ns] [] = .ok (.bl true) T) ∧ ∀ base : Heap, K.In base → base.Ns mainGlobals mg → FnG l.prog w K mg base CX0 k fa fd [x] g) :
    PySem.W.WalkO q loose XP YP l.row.toRowW d [] (fun f vs => PySem.call f vs) := by
  refine Att.attach_call hn hdf fun w s₀ s₁ mg mb fa o pm cd doc a vs ns G Y ho hd hcd hmg hobj hints hlen hg => ?_
  obtain ⟨K, fd, g, inK, bd, res, hF⟩ := F w mg fa _ Y G.T.g hmg
  exact law_end inK G.T.g G.T.b G.T.builtins G.T.nolimit hg hobj hints (Nat.le_trans hlen hn2) room hF bd (res ns hlen)
end Lf


set_option Elab.async false
set_option linter.all false
set_option maxRecDepth 100000
set_option maxHeartbeats 4000000
/-! ## defs by name -/
namespace Lf
open PySem PySem.Spec L2

/-- the def that the module's name x stands for does what g tells; kw: how it is called by keywords alone -/
structure Dok (P : Program) (w : World) (K : PySem.W.Frag) (mg : Str → Option Value) (base : Heap) (x : Str) (k : Nat) (ps : List Str) (kw : List (List Str × List Nat)) (g : List U → M U) : Prop where
  ex : ∃ f fd, FnG P w K mg base CX0 k f fd ps g ∧ mg x = some (.ref f) ∧ PySem.W.keepIn K (.ref f) = true ∧ Binds K fd ps [] ∧
    ∀ q ∈ kw, ∀ (s : Shared) (ws : List Value), ws.length = q.1.length → BindsTo s fd ⟨[], q.1.zip ws⟩ (ps.zip (pick q.2 ws))
theorem FnG.zero {P : Program} {w : World} {K : PySem.W.Frag} {mg : Str → Option Value} {base : Heap} {C : CXT} {k : Nat} {f : Addr} {fd : FuncData} {ps : List Str} : FnG P w K mg base C k f fd ps (fun _ _ => .no) :=
  ⟨fun _ _ _ _ _ _ _ _ _ _ _ _ _ _ _ _ _ _ _ _ h => False.elim h⟩
theorem Dok.of {P : Program} {w : World} {K : PySem.W.Frag} {mg : Str → Option Value} {base : Heap} {x : Str} {k : Nat} {ps : List Str} {kw : List (List Str × List Nat)} {g : List U → M U} {f : Addr} {fd : FuncData} {name qual : Str} {params : Arguments} {body : List Stmt} {scope : Scope}
    (G : FnG P w K mg base CX0 k f fd ps g) (hm : mg x = some (.ref f)) (D : FunD K name qual params body scope [] [] f fd)
    (hb : ∀ (kV doc pm : Value) (an : Option Addr) (cdv ct : Value) (us : List Value), us.length = ps.length → bindArgs (PySem.W.fnOf name qual params body scope .none kV doc pm an cdv ct) ⟨us, []⟩ = pure (ps.zip us))
    (hk : ∀ q ∈ kw, ∀ (kV doc pm : Value) (an : Option Addr) (cdv ct : Value) (ws : List Value), ws.length = q.1.length → bindArgs (PySem.W.fnOf name qual params body scope .none kV doc pm an cdv ct) ⟨[], q.1.zip ws⟩ = pure (ps.zip (pick q.2 ws))) : Dok P w K mg base x k ps kw g := by
  refine ⟨f, fd, G, hm, D.kp, D.bindsN hb, fun q hq s ws hl => ?_⟩
  obtain ⟨oc, od, dV, kV, doc, pm, an, cdv, ct, osl, rfl, lk, hcd, hD, hK⟩ := D.ex
  rcases hD with ⟨_, rfl⟩ | ⟨e, _⟩
  · exact .of_eq (hk q hq kV doc pm an cdv ct ws hl)
  · exact absurd rfl e
section
variable {X : Cx} {E : XK} {j k : Nat} {ps : List Str} {kw : List (List Str × List Nat)} {g : List U → M U} {x : Str} {p pos : Pos} {e : Expr} {es : List Expr} {Fr : FxA}
theorem fe_def (kd : Kd) (D : Dok X.prog X.w X.K X.mg X.base x j ps kw g) (room : Room k X.A) (hjk : Nat.ble j k = true) (gd : X.A.guards = some []) (hg : Gl X x) (ha : FA X E (e :: es) Fr) {n : Nat} (hn : ps.length = n := by rfl)
    (hdb : (x == ("__debug__" : Str)) = false := by decide) (he : starEach (e :: es) X.env = (false, eval e X.env) :: starEach es X.env := by rfl) (hpl : (backTo pos (starEach es X.env)).any (·.1) = false := by rfl) : FE X E (.Call (.Name x p) (e :: es) [] pos) (fCall (kdG kd n g) Fr) := by
  subst hn
  obtain ⟨f, fd, G, hmm, hk, hb, _⟩ := D.ex
  exact fe_call (C := CX0) kd G (room.mono (Nat.le_of_ble_eq_true hjk)) gd hg hmm hk hb (fun _ _ _ _ _ _ _ h => h.elim) ha hdb he hpl
theorem fe_def0 (kd : Kd) (D : Dok X.prog X.w X.K X.mg X.base x j ps kw g) (room : Room k X.A) (hjk : Nat.ble j k = true) (gd : X.A.guards = some []) (hg : Gl X x) (hp : ps = []) {n : Nat} (hn : ps.length = n := by rfl) (hdb : (x == ("__debug__" : Str)) = false := by decide) : FE X E (.Call (.Name x p) [] [] pos) (fCall (kdG kd n g) fNil) := by
  subst hn
  obtain ⟨f, fd, G, hmm, hk, hb, _⟩ := D.ex
  exact fe_call0 (C := CX0) kd G (room.mono (Nat.le_of_ble_eq_true hjk)) gd hg hmm hk hb (fun _ _ _ _ _ _ _ h => h.elim) hp hdb
theorem fe_defK (kd : Kd) (ix : List Nat) {ks : List Str} {kws : List Keyword} (D : Dok X.prog X.w X.K X.mg X.base x j ps kw g) (hq : (ks, ix) ∈ kw) (room : Room k X.A) (hjk : Nat.ble j k = true) (gd : X.A.guards = some []) (hg : Gl X x) (ha : FK X E kws Fr) {n m : Nat} (hn : ps.length = n := by rfl) (hm : ks.length = m := by rfl)
    (hall : (backToKw pos (keywordEach kws X.env)).all (·.1.isSome) = true := by rfl) (hks : (backToKw pos (keywordEach kws X.env)).filterMap (·.1) = ks := by rfl) (hdb : (x == ("__debug__" : Str)) = false := by decide)
    (hpl : ((backTo pos (starEach [] X.env)).any (·.1) || (backToKw pos (keywordEach kws X.env)).any (·.1.isNone)) = false := by rfl) : FE X E (.Call (.Name x p) [] kws pos) (fCall (kwG kd n m ix g) Fr) := by
  subst hn hm
  obtain ⟨f, fd, G, hmm, hk, hb, hkw⟩ := D.ex
  exact fe_callK (C := CX0) kd ix G (room.mono (Nat.le_of_ble_eq_true hjk)) gd hg hmm hk (hkw _ hq) (fun _ _ _ _ _ _ _ h => h.elim) ha hall hks hdb hpl
theorem ft_chain {a b c : Expr} {Fa Fb Fc : FxE} {op op' : CmpOp} {g g' : U → U → M U} (ho : FOp X E (compareOp op) g) (ho' : FOp X E (compareOp op') g') (ha : FE X E a Fa) (hb : FE X E b Fb) (hc : FE X E c Fc) (hm : lastMarks [op, op'] [b, c] = false := by with_unfolding_all rfl) :
    FT X E (.Compare a [op, op'] [b, c] pos) (fBl (fChain g g' Fa Fb Fc)) := by
  obtain ⟨r, h1, h2⟩ := ho
  obtain ⟨r', h1', h2'⟩ := ho'
  obtain ⟨ta, ka, qa⟩ := ha
  obtain ⟨tb, kb, qb⟩ := hb
  obtain ⟨tc, kc, qc⟩ := hc
  refine ⟨_, pt_chain h1 h1' ka kb kc hm, fun σ H ρ T η Q s re h => ?_⟩
  have h' := OK.bind (rel := rV X.K) h
  refine qa σ H ρ T η _ s re (OK.mono (OK.bind h') fun x H1 ⟨ρ1, T1, u, g1, s1, r1, k1⟩ => ?_)
  refine qb σ H1 ρ1 T1 η _ s1 (re.gr g1) (OK.mono (OK.bind k1) fun y H2 ⟨ρ2, T2, w, g2, s2, r2, k2⟩ => ?_)
  refine h2 ρ2 H2 T2 u w x y _ s2 (RV.gr r1 g2) r2 (OK.mono (OK.bind k2) fun z H3 ⟨ρ3, T3, uz, g3, s3, r3, k3⟩ => ?_)
  cases uz with
  | bl k =>
    cases r3
    refine ⟨k, rfl, ?_⟩
    cases k with
    | true =>
      refine qc σ H3 ρ3 T3 η _ s3 (re.gr (g1.trans (g2.trans g3))) (OK.mono (OK.bind k3) fun q H4 ⟨ρ4, T4, uq, g4, s4, r4, k4⟩ => ?_)
      refine h2' ρ4 H4 T4 w uq y q _ s4 (RV.gr r2 (g3.trans g4)) r4 (OK.mono k4 fun z H5 ⟨ρ5, T5, u5, g5, s5, r5, k5⟩ => ?_)
      cases u5 with
      | bl k => cases r5; exact ⟨k, rfl, okB s5 k5⟩
      | _ => exact False.elim k5
    | false =>
      obtain ⟨ρ5, T5, u5, g5, s5, r5, k5⟩ := okV s3 k3 (.bl false)
      cases u5 with
      | bl k => cases r5; exact ⟨false, rfl, okB s5 k5⟩
      | raw v => exact False.elim k5
      | _ => cases r5
  | _ => exact False.elim k3
end
end Lf


set_option Elab.async false
set_option linter.all false
set_option maxRecDepth 100000
set_option maxHeartbeats 4000000
/-! ## what a computation tells -/
namespace Lf
open PySem PySem.Spec L2

/-- it ends well, and Q holds of what it tells -/
def Wp {α : Type} (r : R α) (Q : α → Sto → Prop) : Prop := ∃ a T, r = .ok a T ∧ Q a T
section
variable {α β : Type}
theorem Wp.ok {a : α} {T : Sto} {Q : α → Sto → Prop} (h : Q a T) : Wp (.ok a T) Q := ⟨a, T, rfl, h⟩
theorem Wp.bind {r : R α} {k : α → M β} {Q : β → Sto → Prop} (h : Wp r fun a T => Wp (k a T) Q) : Wp (r.bind k) Q := by
  obtain ⟨a, T, rfl, h⟩ := h
  exact h
theorem Wp.mono {r : R α} {Q Q' : α → Sto → Prop} (h : Wp r Q) (i : ∀ a T, Q a T → Q' a T) : Wp r Q' := by
  obtain ⟨a, T, e, h⟩ := h
  exact ⟨a, T, e, i _ _ h⟩
theorem Wp.bindE {r : R α} {k : α → M β} {Q' : α → Sto → Prop} {Q : β → Sto → Prop} (h : Wp r Q') (i : ∀ a T, Q' a T → Wp (k a T) Q) : Wp (r.bind k) Q :=
  .bind (h.mono i)
@[simp] theorem wp_ok {a : α} {T : Sto} {Q : α → Sto → Prop} : Wp (.ok a T) Q ↔ Q a T := ⟨fun ⟨_, _, e, h⟩ => by cases e; exact h, fun h => ⟨_, _, rfl, h⟩⟩
@[simp] theorem wp_no {Q : α → Sto → Prop} : Wp (.no : R α) Q ↔ False := ⟨fun ⟨_, _, e, _⟩ => (nomatch e), False.elim⟩
theorem wp_bind {r : R α} {k : α → M β} {Q : β → Sto → Prop} : Wp (r.bind k) Q ↔ Wp r fun a T => Wp (k a T) Q := by
  constructor
  · rintro ⟨b, T, e, h⟩
    cases r with
    | no => cases e
    | ok a T1 => exact ⟨a, T1, rfl, _, _, e, h⟩
    | ex x T1 => cases e
  · exact .bind
theorem wp_ite {p : Prop} [Decidable p] {a b : R α} {Q : α → Sto → Prop} : Wp (if p then a else b) Q ↔ (p → Wp a Q) ∧ (¬p → Wp b Q) := by
  by_cases h : p <;> simp [h]
end
/-- then A, but for what leaves -/
def kS (A : Lo → Sto → Prop) (Q : Fl × Lo → Sto → Prop) : Fl × Lo → Sto → Prop
  | (.nx, η), T => A η T
  | p, T => Q p T
def kD (Q : U → Sto → Prop) : Fl × Lo → Sto → Prop
  | (.rt u, _), T => Q u T
  | (.nx, _), T => Q .non T
  | _, _ => False
def kF (A : Lo → Sto → Prop) (Q : Fl × Lo → Sto → Prop) : Fl × Lo → Sto → Prop
  | (.nx, η), T => A η T
  | (.ct, η), T => A η T
  | (.bk, η), T => Q (.nx, η) T
  | (.rt u, η), T => Q (.rt u, η) T
section
variable {A : Lo → Sto → Prop} {Q : Fl × Lo → Sto → Prop} {QU : U → Sto → Prop} {η : Lo} {T : Sto} {u : U}
theorem kS_nx (h : A η T) : kS A Q (.nx, η) T := h
theorem kS_rt (h : Q (.rt u, η) T) : kS A Q (.rt u, η) T := h
theorem kS_bk (h : Q (.bk, η) T) : kS A Q (.bk, η) T := h
theorem kS_ct (h : Q (.ct, η) T) : kS A Q (.ct, η) T := h
theorem kD_rt (h : QU u T) : kD QU (.rt u, η) T := h
theorem kD_nx (h : QU .non T) : kD QU (.nx, η) T := h
theorem kF_nx (h : A η T) : kF A Q (.nx, η) T := h
theorem kF_ct (h : A η T) : kF A Q (.ct, η) T := h
theorem kF_bk (h : Q (.nx, η) T) : kF A Q (.bk, η) T := h
theorem kF_rt (h : Q (.rt u, η) T) : kF A Q (.rt u, η) T := h
theorem v_ifT {X Y : Prop} (h : X) : (true = true → X) ∧ (true = false → Y) := ⟨fun _ => h, fun h => nomatch h⟩
theorem v_ifF {X Y : Prop} (h : Y) : (false = true → X) ∧ (false = false → Y) := ⟨fun h => (nomatch h), fun _ => h⟩
theorem v_ifd {p : Prop} [Decidable p] {X Y : Prop} (h1 : p → X) (h2 : ¬p → Y) : (decide p = true → X) ∧ (decide p = false → Y) := ⟨fun h => h1 (of_decide_eq_true h), fun h => h2 (of_decide_eq_false h)⟩
theorem v_ifdn {p : Prop} [Decidable p] {X Y : Prop} (h1 : p → Y) (h2 : ¬p → X) : ((!decide p) = true → X) ∧ ((!decide p) = false → Y) := ⟨fun h => h2 (by simpa using h), fun h => h1 (by simpa using h)⟩
end
/-- a pure loop over the known items xs, by an invariant of what is left -/
theorem wp_for {G : U → Lo → M Lo} {Fb : FxS} (I : List U → Lo → Sto → Prop) {Q : Fl × Lo → Sto → Prop} {fin : Sto → Bool} (hf : ∀ T, fin T = true)
    (step : ∀ x r η T, I (x :: r) η T → Wp (G x η T) fun η1 T1 => Wp (Fb η1 T1) (kF (I r) Q))
    (hend : ∀ η T, I [] η T → Q (.nx, η) T) : ∀ xs η T, I xs η T → Wp (forN G Fb fin (xs.map fun u _ => some u) η T) Q
  | [], η, T, h => by
    show Wp (if fin T = true then .ok (.nx, η) T else .no) Q
    rw [if_pos (hf T)]
    exact .ok (hend _ _ h)
  | x :: r, η, T, h => by
    show Wp ((G x η T).bind fun η1 T1 => (Fb η1 T1).bind fun p T2 => match p.1 with
      | .nx => forN G Fb fin (r.map fun u _ => some u) p.2 T2
      | .ct => forN G Fb fin (r.map fun u _ => some u) p.2 T2
      | .bk => .ok (.nx, p.2) T2
      | .rt u => .ok (.rt u, p.2) T2) Q
    refine .bindE (step x r η T h) fun η1 T1 h1 => .bindE h1 fun p T2 h2 => ?_
    obtain ⟨f, η2⟩ := p
    cases f with
    | nx => exact wp_for I hf step hend r η2 T2 h2
    | ct => exact wp_for I hf step hend r η2 T2 h2
    | bk => exact .ok h2
    | rt u => exact .ok h2
/-- a loop over a list in the store that the body leaves as it is -/
theorem wp_forO {G : U → Lo → M Lo} {Fb : FxS} (k : Nat) (xs : List U) (I : Nat → Lo → Sto → Prop) {Q : Fl × Lo → Sto → Prop}
    (hk : ∀ i η T, I i η T → T[k]? = some (.lst xs))
    (step : ∀ i x η T, xs[i]? = some x → I i η T → Wp (G x η T) fun η1 T1 => Wp (Fb η1 T1) (kF (I (i + 1)) Q))
    (hend : ∀ η T, I xs.length η T → Q (.nx, η) T) : ∀ n i η T, i + n = xs.length → I i η T → Wp (forN G Fb (fun T => (lstAt T k xs.length).isSome) ((List.range' i n).map fun i T => (lstAt T k xs.length).bind (·[i]?)) η T) Q
  | 0, i, η, T, e, h => by
    show Wp (if (lstAt T k xs.length).isSome = true then .ok (.nx, η) T else .no) Q
    have : lstAt T k xs.length = some xs := by unfold lstAt; rw [hk i η T h]; simp
    simp only [this, Option.isSome_some, if_true]
    have : i = xs.length := by omega
    exact .ok (hend _ _ (this ▸ h))
  | n + 1, i, η, T, e, h => by
    have hl : lstAt T k xs.length = some xs := by unfold lstAt; rw [hk i η T h]; simp
    have hi : i < xs.length := by omega
    rw [List.range'_succ, List.map_cons]
    unfold forN
    simp only [hl, Option.bind_some, List.getElem?_eq_getElem hi]
    refine .bindE (step i xs[i] η T (List.getElem?_eq_getElem hi) h) fun η1 T1 h1 => .bindE h1 fun p T2 h2 => ?_
    obtain ⟨f, η2⟩ := p
    cases f with
    | nx => exact wp_forO k xs I hk step hend n (i + 1) η2 T2 (by omega) h2
    | ct => exact wp_forO k xs I hk step hend n (i + 1) η2 T2 (by omega) h2
    | bk => exact .ok h2
    | rt u => exact .ok h2
/-- a comprehension over the known items xs: I tells of what is left and of what is made -/
theorem wp_lc {G : U → Lo → M Lo} {Ft : FxT} {Fe : FxE} {η : Lo} (I : List U → List U → Sto → Prop) {Q : U → Sto → Prop} {fin : Sto → Bool} (hf : ∀ T, fin T = true)
    (step : ∀ x r acc T, I (x :: r) acc T → Wp (G x η T) fun η1 T1 => Wp (Ft η1 T1) fun b T2 => if b = true then Wp (Fe η1 T2) fun y T3 => acc.length < 16777216 ∧ I r (acc ++ [y]) T3 else I r acc T2)
    (hend : ∀ acc T, I [] acc T → Q (.ob T.length) (T ++ [.lst acc])) : ∀ xs acc T, I xs acc T → Wp (lcN G Ft Fe fin η (xs.map fun u _ => some u) acc T) Q
  | [], acc, T, h => by
    show Wp (if fin T = true then nw (.lst acc) T else .no) Q
    rw [if_pos (hf T)]
    exact .ok (hend _ _ h)
  | x :: r, acc, T, h => by
    show Wp ((G x η T).bind fun η1 T1 => (Ft η1 T1).bind fun b T2 => if b = true then (Fe η1 T2).bind fun y T3 => if acc.length < 16777216 then lcN G Ft Fe fin η (r.map fun u _ => some u) (acc ++ [y]) T3 else .no else lcN G Ft Fe fin η (r.map fun u _ => some u) acc T2) Q
    refine .bindE (step x r acc T h) fun η1 T1 h1 => .bindE h1 fun b T2 h2 => ?_
    cases b with
    | true =>
      rw [if_pos rfl] at h2 ⊢
      refine .bindE h2 fun y T3 h3 => ?_
      rw [if_pos h3.1]
      exact wp_lc I hf step hend r _ _ h3.2
    | false =>
      rw [if_neg (by decide)] at h2 ⊢
      exact wp_lc I hf step hend r _ _ h2
theorem gDef_wp {n : Nat} {F : FxS} {us : List U} {T : Sto} {Q : U → Sto → Prop} (h : Wp (F (us.map some ++ List.replicate (n - us.length) none) T) (kD Q)) : Wp (gDef n F us T) Q := by
  refine .bindE h fun p T1 h => ?_
  obtain ⟨f, η⟩ := p
  cases f with
  | nx => exact .ok h
  | rt u => exact .ok h
  | bk => exact h.elim
  | ct => exact h.elim
theorem seq_wp {F G : FxS} {η : Lo} {T : Sto} {Q : Fl × Lo → Sto → Prop} (h : Wp (F η T) (kS (fun η T => Wp (G η T) Q) Q)) : Wp (fSeq F G η T) Q := by
  refine .bindE h fun p T1 h => ?_
  obtain ⟨f, η⟩ := p
  cases f with
  | nx => exact h
  | rt u => exact .ok h
  | bk => exact .ok h
  | ct => exact .ok h
/-- a call of what takes its first object alone -/
theorem urn_wp {n : Nat} {g : List U → M U} {i : Nat} {r : List U} {T : Sto} {o : O} {Q : U → Sto → Prop} (hn : r.length + 1 = n) (hr : nrs r = true) (ht : T[i]? = some o) (ho : nrO o = true)
    (h : Wp (g (.ob 0 :: r) [o]) fun u T' => ∃ o' l, T' = o' :: l ∧ nrO o' = true ∧ nr u = true ∧ Q u (T.set i o')) : Wp (urnG n g (.ob i :: r) T) Q := by
  obtain ⟨u, T', e, o', l, rfl, ho', hu, hq⟩ := h
  refine ⟨u, _, ?_, hq⟩
  simp only [urnG, hn, hr, ht, ho, e, ho', hu, and_self, if_true]
theorem pur_wp {n : Nat} {g : List U → M U} {us : List U} {T : Sto} {Q : U → Sto → Prop} (hn : us.length = n) (hr : nrs us = true)
    (h : Wp (g us []) fun u T' => match u with
      | .ob k => ∃ o, T'[k]? = some o ∧ nrO o = true ∧ Q (.ob T.length) (T ++ [o])
      | u => nr u = true ∧ Q u T) : Wp (pureG n g us T) Q := by
  obtain ⟨u, T', e, hq⟩ := h
  cases u with
  | ob k =>
    obtain ⟨o, e1, e2, e3⟩ := hq
    exact ⟨_, _, by simp only [pureG, hn, hr, e, e1, e2, and_self, if_true], e3⟩
  | _ =>
    obtain ⟨e2, e3⟩ := hq
    refine ⟨_, _, ?_, e3⟩
    simp only [pureG, hn, hr, e, e2, and_self, if_true]
theorem len_wp {n : Nat} {g : List U → M U} {us : List U} {T : Sto} {Q : U → Sto → Prop} (hn : us.length = n) (h : Wp (g us T) Q) : Wp (lenG n g us T) Q := by
  simpa only [lenG, hn, if_true] using h
/-! ### the urn of the first laws -/
def Urn (o : O) : Prop := ∃ a b : Int, o = .lst [.int a, .int b] ∧ 0 ≤ b ∧ b < 2305843009213693951
theorem Urn.nr {o : O} (h : Urn o) : nrO o = true := by
  obtain ⟨a, b, rfl, _⟩ := h
  rfl
/-- small enough for the multiplications -/
def Sm (i : Int) : Prop := -100000000000000000000000000000000000000000000000000000000000000000000000000000000000000000000000000000000000000000000000000000000000000000000000000000000000000000000000000000000000000000000000000000000 < i ∧ i < 100000000000000000000000000000000000000000000000000000000000000000000000000000000000000000000000000000000000000000000000000000000000000000000000000000000000000000000000000000000000000000000000000000000
theorem log2_small {i : Int} (h : Sm i) : i.natAbs.log2 < 665 := by
  obtain ⟨h1, h2⟩ := h
  by_cases h0 : i.natAbs = 0
  · rw [h0]; decide
  · rw [Nat.log2_lt h0]
    have : (2 : Nat) ^ 665 = 153090103458041951154620325043801237641319743206933311288544235956760011447392195175450369025277569052617268428910122535686807015741471080782585043071649294869136754165183653769539196448293593632735232 := by decide +kernel
    omega
theorem log2m {i j : Int} (h1 : Sm i) (h2 : Sm j) : i.natAbs.log2 + j.natAbs.log2 < 1000000 := by
  have := log2_small h1
  have := log2_small h2
  omega
theorem log2d {j : Int} (h1 : 0 < j) (h2 : Sm j) : 0 < j ∧ j.natAbs.log2 < 9000 := by
  have := log2_small h2
  exact ⟨h1, by omega⟩
def tkA : FxS := fSeq (fIf (fBl (fBin gGt (fBin gIx (fVar 0) (fC (.int 0))) (fC (.int 0)))) (fSeq (fSet 2 (fBin gMod (fBin gIx (fVar 0) (fC (.int 0))) (fVar 1))) (fSeq (fAsg (fBin gDiv (fBin gIx (fVar 0) (fC (.int 0))) (fVar 1)) (gSubT (fVar 0) (fC (.int 0)))) (fRet (fVar 2)))) (fSkip)) (fSeq (fAsg (fBin gMod (fBin gAdd (fBin gMul (fBin gIx (fVar 0) (fC (.int 1))) (fC (.int 1181783497276652981))) (fC (.int 12345678910987))) (fC (.int 2305843009213693951))) (gSubT (fVar 0) (fC (.int 1)))) (fSeq (fSet 3 (fBin gMod (fBin gMul (fBin gDiv (fBin gIx (fVar 0) (fC (.int 1))) (fC (.int 65537))) (fBin gAdd (fBin gMod (fBin gIx (fVar 0) (fC (.int 1))) (fC (.int 65537))) (fC (.int 3)))) (fC (.int 2305843009213693921)))) (fSeq (fIf (fBl (fBin gGt (fVar 1) (fBin gPow (fC (.int 10)) (fC (.int 9))))) (fSeq (fAsg (fBin gMod (fBin gAdd (fBin gMul (fBin gIx (fVar 0) (fC (.int 1))) (fC (.int 3202034522624059733))) (fC (.int 1))) (fC (.int 2305843009213693951))) (gSubT (fVar 0) (fC (.int 1)))) (fSet 3 (fBin gAdd (fBin gMul (fVar 3) (fC (.int 2305843009213693921))) (fBin gIx (fVar 0) (fC (.int 1)))))) (fSkip)) (fRet (fBin gMod (fBin gDiv (fVar 3) (fC (.int 97))) (fVar 1))))))

/-! ### stepping rules -/
section
variable {η : Lo} {T : Sto} {Fa Fb Fc Fe : FxE} {Ft Ft2 : FxT} {Fr : FxA} {F G : FxS} {g h : U → U → M U} {Q : U → Sto → Prop} {QB : Bool → Sto → Prop} {QA : List U → Sto → Prop} {QS : Fl × Lo → Sto → Prop} {QL : Lo → Sto → Prop}
theorem v_var {i : Nat} {u : U} (e : η[i]? = some (some u)) (q : Q u T) : Wp (fVar i η T) Q := by
  unfold fVar; rw [e]; exact .ok q
theorem v_c {u : U} (q : Q u T) : Wp (fC u η T) Q := .ok q
theorem v_bin (q : Wp (Fa η T) fun u T1 => Wp (Fb η T1) fun v T2 => Wp (g u v T2) Q) : Wp (fBin g Fa Fb η T) Q := .bindE q fun _ _ q => .bind q
theorem v_un {g : U → M U} (q : Wp (Fa η T) fun u T1 => Wp (g u T1) Q) : Wp (fUn g Fa η T) Q := .bind q
theorem v_nil (q : QA [] T) : Wp (fNil η T) QA := .ok q
theorem v_cons (q : Wp (Fa η T) fun u T1 => Wp (Fr η T1) fun us T2 => QA (u :: us) T2) : Wp (fCons Fa Fr η T) QA := .bindE q fun _ _ q => .bindE q fun _ _ q => .ok q
theorem v_call {g : List U → M U} (q : Wp (Fr η T) fun us T1 => Wp (g us T1) Q) : Wp (fCall g Fr η T) Q := .bind q
theorem v_tup (q : Wp (Fr η T) fun us T1 => us.length ≤ 16777216 ∧ Q (.tup us) T1) : Wp (fTup Fr η T) Q := .bindE q fun _ _ q => by rw [if_pos q.1]; exact .ok q.2
theorem v_lst (q : Wp (Fr η T) fun us T1 => us.length ≤ 16777216 ∧ Q (.ob T1.length) (T1 ++ [.lst us])) : Wp (fLst Fr η T) Q := .bindE q fun _ _ q => by rw [if_pos q.1]; exact .ok q.2
theorem v_nw {o : O} (q : Q (.ob T.length) (T ++ [o])) : Wp (nw o T) Q := .ok q
theorem v_ite {α : Type} {b : Bool} {x y : R α} {Q : α → Sto → Prop} (h1 : b = true → Wp x Q) (h2 : b = false → Wp y Q) : Wp (if b = true then x else y) Q := by
  cases b
  · exact h2 rfl
  · exact h1 rfl
theorem v_ifE (q : Wp (Ft η T) fun b T1 => (b = true → Wp (Fa η T1) Q) ∧ (b = false → Wp (Fb η T1) Q)) : Wp (fIfE Ft Fa Fb η T) Q := .bindE q fun _ _ q => v_ite q.1 q.2
theorem v_if (q : Wp (Ft η T) fun b T1 => (b = true → Wp (F η T1) QS) ∧ (b = false → Wp (G η T1) QS)) : Wp (fIf Ft F G η T) QS := .bindE q fun _ _ q => v_ite q.1 q.2
theorem v_tru (q : Wp (Fa η T) fun u T1 => ∃ b, tru T1 u = some b ∧ QB b T1) : Wp (fTru Fa η T) QB := .bindE q fun _ _ ⟨b, e, q⟩ => by rw [e]; exact .ok q
theorem v_bl (q : Wp (Fa η T) fun u T1 => ∃ b, u = .bl b ∧ QB b T1) : Wp (fBl Fa η T) QB := .bindE q fun _ _ ⟨b, e, q⟩ => by subst e; exact .ok q
theorem v_and (q : Wp (Ft η T) fun b T1 => (b = true → Wp (Ft2 η T1) QB) ∧ (b = false → QB false T1)) : Wp (fAnd Ft Ft2 η T) QB := .bindE q fun _ _ q => v_ite q.1 fun e => .ok (q.2 e)
theorem v_or (q : Wp (Ft η T) fun b T1 => (b = true → QB true T1) ∧ (b = false → Wp (Ft2 η T1) QB)) : Wp (fOr Ft Ft2 η T) QB := .bindE q fun _ _ q => v_ite (fun e => .ok (q.1 e)) q.2
theorem v_not (q : Wp (Ft η T) fun b T1 => QB (!b) T1) : Wp (fNot Ft η T) QB := .bindE q fun _ _ q => .ok q
theorem v_andV (q : Wp (Fa η T) fun u T1 => ∃ b, u = .bl b ∧ (b = true → Wp (Fb η T1) Q) ∧ (b = false → Q (.bl false) T1)) : Wp (fAndV Fa Fb η T) Q := .bindE q fun _ _ ⟨b, e, q⟩ => by
  subst e
  cases b
  · exact .ok (q.2 rfl)
  · exact q.1 rfl
theorem v_orV (q : Wp (Fa η T) fun u T1 => ∃ b, u = .bl b ∧ (b = true → Q (.bl true) T1) ∧ (b = false → Wp (Fb η T1) Q)) : Wp (fOrV Fa Fb η T) Q := .bindE q fun _ _ ⟨b, e, q⟩ => by
  subst e
  cases b
  · exact q.2 rfl
  · exact .ok (q.1 rfl)
theorem v_notV (q : Wp (Fa η T) fun u T1 => ∃ b, tru T1 u = some b ∧ Q (.bl (!b)) T1) : Wp (fNotV Fa η T) Q := .bindE q fun _ _ ⟨b, e, q⟩ => by rw [e]; exact .ok q
theorem v_chain (q : Wp (Fa η T) fun u T1 => Wp (Fb η T1) fun v T2 => Wp (g u v T2) fun z T3 => ∃ b, z = .bl b ∧ (b = true → Wp (Fc η T3) fun x T4 => Wp (h v x T4) Q) ∧ (b = false → Q (.bl false) T3)) : Wp (fChain g h Fa Fb Fc η T) Q :=
  .bindE q fun _ _ q => .bindE q fun _ _ q => .bindE q fun _ _ ⟨b, e, q⟩ => by
    subst e
    cases b
    · exact .ok (q.2 rfl)
    · exact .bind (q.1 rfl)
theorem v_skip (q : QS (.nx, η) T) : Wp (fSkip η T) QS := .ok q
theorem v_drop (q : Wp (Fe η T) fun _ T1 => QS (.nx, η) T1) : Wp (fDrop Fe η T) QS := .bindE q fun _ _ q => .ok q
theorem v_ret (q : Wp (Fe η T) fun u T1 => QS (.rt u, η) T1) : Wp (fRet Fe η T) QS := .bindE q fun _ _ q => .ok q
theorem v_retN (q : QS (.rt .non, η) T) : Wp (fRetN η T) QS := .ok q
theorem v_brk (q : QS (.bk, η) T) : Wp (fBrk η T) QS := .ok q
theorem v_cnt (q : QS (.ct, η) T) : Wp (fCnt η T) QS := .ok q
theorem v_set {i : Nat} (q : Wp (Fe η T) fun u T1 => QS (.nx, η.set i (some u)) T1) : Wp (fSet i Fe η T) QS := .bindE q fun _ _ q => .ok q
theorem v_asg {G : U → Lo → M Lo} (q : Wp (Fe η T) fun u T1 => Wp (G u η T1) fun η1 T2 => QS (.nx, η1) T2) : Wp (fAsg Fe G η T) QS := .bindE q fun _ _ q => .bindE q fun _ _ q => .ok q
theorem v_par2 {i j : Nat} (q : Wp (Fr η T) fun us T1 => ∃ u w, us = [u, w] ∧ QS (.nx, (η.set i (some u)).set j (some w)) T1) : Wp (fPar2 i j Fr η T) QS := .bindE q fun _ _ ⟨u, w, e, q⟩ => by subst e; exact .ok q
theorem v_par3 {i j l : Nat} (q : Wp (Fr η T) fun us T1 => ∃ u w z, us = [u, w, z] ∧ QS (.nx, ((η.set i (some u)).set j (some w)).set l (some z)) T1) : Wp (fPar3 i j l Fr η T) QS := .bindE q fun _ _ ⟨u, w, z, e, q⟩ => by subst e; exact .ok q
theorem v_nm {i : Nat} {u : U} (q : QL (η.set i (some u)) T) : Wp (gNm i u η T) QL := .ok q
theorem v_gnil (q : QL η T) : Wp (gNil [] η T) QL := .ok q
theorem v_gcons {G : U → Lo → M Lo} {Gr : List U → Lo → M Lo} {u : U} {r : List U} (q : Wp (G u η T) fun η1 T1 => Wp (Gr r η1 T1) QL) : Wp (gCons G Gr (u :: r) η T) QL := .bind q
theorem v_unp {n : Nat} {Gr : List U → Lo → M Lo} {xs : List U} (e : xs.length = n) (q : Wp (Gr xs η T) QL) : Wp (gUnp n Gr (.tup xs) η T) QL := by
  unfold gUnp; simpa only [e, if_true] using q
theorem v_subT {v : U} (q : Wp (Fa η T) fun o T1 => Wp (Fb η T1) fun i T2 => ∃ T3, gSetIt o i v T2 = some T3 ∧ QL η T3) : Wp (gSubT Fa Fb v η T) QL := .bindE q fun _ _ q => .bindE q fun _ _ ⟨T3, e, q⟩ => by rw [e]; exact .ok q
theorem v_aug {i : Nat} {u : U} (e : η[i]? = some (some u)) (q : Wp (Fe η T) fun w T1 => Wp (g u w T1) fun z T2 => QS (.nx, η.set i (some z)) T2) : Wp (fAug i g Fe η T) QS := by
  unfold fAug; rw [e]
  exact .bindE q fun _ _ q => .bindE q fun _ _ q => .ok q
theorem v_yes (q : QB true T) : Wp (fYes η T) QB := .ok q
theorem v_for {Fi : FxI} {G : U → Lo → M Lo} (q : Wp (Fi η T) fun it T1 => Wp (forN G F it.fin it.its η T1) QS) : Wp (fFor Fi G F η T) QS := .bind q
theorem v_lc {vs : List Nat} {Fi : FxI} {G : U → Lo → M Lo} (q : Wp (Fi η T) fun it T1 => Wp (lcN G Ft Fe it.fin (wipeU η vs) it.its [] T1) Q) : Wp (fLc vs Fi G Ft Fe η T) Q := .bind q
theorem v_rg {Fi : List U → M ItF} {QI : ItF → Sto → Prop} (q : Wp (Fr η T) fun us T1 => Wp (Fi us T1) QI) : Wp (fRg Fi Fr η T) QI := .bind q
theorem v_rg1 {j : Int} {QI : ItF → Sto → Prop} (e : small62 j = true) (q : QI (constI (rgU 0 j.toNat)) T) : Wp (gRg1 [.int j] T) QI := by
  unfold gRg1; simp only [e, if_true]; exact .ok q
theorem v_rg2 {i j : Int} {QI : ItF → Sto → Prop} (e : (small62 i && small62 j) = true) (q : QI (constI (rgU i (j - i).toNat)) T) : Wp (gRg2 [.int i, .int j] T) QI := by
  unfold gRg2; simp only [e, if_true]; exact .ok q
theorem v_iter {QI : ItF → Sto → Prop} (q : Wp (Fe η T) fun u T1 => Wp (gIter u T1) QI) : Wp (fIter Fe η T) QI := .bind q
theorem v_iterT {xs : List U} {QI : ItF → Sto → Prop} (q : QI (constI xs) T) : Wp (gIter (.tup xs) T) QI := .ok q
theorem v_iterO {k : Nat} {xs : List U} {QI : ItF → Sto → Prop} (e : T[k]? = some (.lst xs)) (q : QI (objI k xs.length) T) : Wp (gIter (.ob k) T) QI := by
  unfold gIter; simp only [e]; exact .ok q
theorem v_add {i j : Int} (q : Q (.int (i + j)) T) : Wp (gAdd (.int i) (.int j) T) Q := .ok q
theorem v_addS {x y : Str} (e : x.length + y.length ≤ 16777216) (q : Q (.str (x ++ y)) T) : Wp (gAdd (.str x) (.str y) T) Q := by
  unfold gAdd; simp only [e, if_true]; exact .ok q
theorem v_addT {x y : List U} (e : x.length + y.length ≤ 16777216) (q : Q (.tup (x ++ y)) T) : Wp (gAdd (.tup x) (.tup y) T) Q := by
  unfold gAdd; simp only [e, if_true]; exact .ok q
theorem v_addL {i j : Nat} {x y : List U} (e1 : T[i]? = some (.lst x)) (e2 : T[j]? = some (.lst y)) (e : x.length + y.length ≤ 16777216) (q : Q (.ob T.length) (T ++ [.lst (x ++ y)])) : Wp (gAdd (.ob i) (.ob j) T) Q := by
  unfold gAdd; simp only [e1, e2, e, if_true]; exact .ok q
theorem v_sub {i j : Int} (q : Q (.int (i - j)) T) : Wp (gSub (.int i) (.int j) T) Q := .ok q
theorem v_mul {i j : Int} (e : i.natAbs.log2 + j.natAbs.log2 < 1000000) (q : Q (.int (i * j)) T) : Wp (gMul (.int i) (.int j) T) Q := by
  unfold gMul; simp only [e, if_true]; exact .ok q
theorem v_div {i j : Int} (e : 0 < j ∧ j.natAbs.log2 < 9000) (q : Q (.int (i / j)) T) : Wp (gDiv (.int i) (.int j) T) Q := by
  unfold gDiv; simp only [e, if_true]; exact .ok q
theorem v_mod {i j : Int} (e : 0 < j) (q : Q (.int (i % j)) T) : Wp (gMod (.int i) (.int j) T) Q := by
  unfold gMod; simp only [e, if_true]; exact .ok q
theorem v_pow {i j : Int} (e : 0 ≤ j ∧ j ≤ 1000000 ∧ i.natAbs < 18446744073709551616) (q : Q (.int (i ^ j.toNat)) T) : Wp (gPow (.int i) (.int j) T) Q := by
  unfold gPow; simp only [e, and_self, if_true]; exact .ok q
theorem v_neg {i : Int} (q : Q (.int (-i)) T) : Wp (gNeg (.int i) T) Q := .ok q
theorem v_cmp {p : Int → Int → Bool} {i j : Int} (q : Q (.bl (p i j)) T) : Wp (gCmp p (.int i) (.int j) T) Q := .ok q
theorem v_lt {i j : Int} (q : Q (.bl (decide (i < j))) T) : Wp (gLt (.int i) (.int j) T) Q := .ok q
theorem v_le {i j : Int} (q : Q (.bl (decide (i ≤ j))) T) : Wp (gLe (.int i) (.int j) T) Q := .ok q
theorem v_gt {i j : Int} (q : Q (.bl (decide (j < i))) T) : Wp (gGt (.int i) (.int j) T) Q := .ok q
theorem v_ge {i j : Int} (q : Q (.bl (decide (j ≤ i))) T) : Wp (gGe (.int i) (.int j) T) Q := .ok q
theorem v_eqI {i j : Int} (q : Q (.bl (decide (i = j))) T) : Wp (gEq false (.int i) (.int j) T) Q := by
  have e : PyData.eqv (.int i) (.int j) = decide (i = j) := by unfold PyData.eqv; rfl
  unfold gEq gEqD dat
  simp only [SeqAt.shaped, and_self, if_true, e, Bool.false_eq_true, if_false]
  exact .ok q
theorem v_neI {i j : Int} (q : Q (.bl (decide (i ≠ j))) T) : Wp (gEq true (.int i) (.int j) T) Q := by
  have e : PyData.eqv (.int i) (.int j) = decide (i = j) := by unfold PyData.eqv; rfl
  unfold gEq gEqD dat
  simp only [SeqAt.shaped, and_self, if_true, e]
  refine .ok ?_
  rw [show (!decide (i = j)) = decide (i ≠ j) from (decide_not ..).symm]
  exact q
theorem v_len {u : U} {xs : List U} (hu : ∀ z, u ≠ .str z) (e : seqU T u = some xs) (q : Q (.int xs.length) T) : Wp (gLen [u] T) Q := by
  unfold gLen
  cases u with
  | str z => exact absurd rfl (hu z)
  | _ => simp only [e]; exact .ok q
theorem v_lenL {k : Nat} {xs : List U} (e : T[k]? = some (.lst xs)) (q : Q (.int xs.length) T) : Wp (gLen [.ob k] T) Q := v_len (fun _ => U.noConfusion) (by unfold seqU; simp only [e]) q
theorem v_lenT {xs : List U} (q : Q (.int xs.length) T) : Wp (gLen [.tup xs] T) Q := v_len (fun _ => U.noConfusion) rfl q
theorem v_lenN {ns : List Int} (q : Q (.int ns.length) T) : Wp (gLen [.scr ns] T) Q := v_len (fun _ => U.noConfusion) rfl (by rw [List.length_map]; exact q)
theorem v_lenS {z : Str} (e : z.length ≤ 16777216) (q : Q (.int z.length) T) : Wp (gLen [.str z] T) Q := by
  unfold gLen; simp only [e, if_true]; exact .ok q
theorem v_abs {i : Int} (q : Q (.int (if i < 0 then -i else i)) T) : Wp (gAbs [.int i] T) Q := .ok q
theorem v_intI {i : Int} (q : Q (.int i) T) : Wp (gInt [.int i] T) Q := .ok q
theorem v_intB {b : Bool} (q : Q (.int (if b then 1 else 0)) T) : Wp (gInt [.bl b] T) Q := .ok q
theorem v_max2 {i j : Int} (q : Q (.int (if j > i then j else i)) T) : Wp (gMax2 [.int i, .int j] T) Q := .ok q
theorem v_min2 {i j : Int} (q : Q (.int (if j < i then j else i)) T) : Wp (gMin2 [.int i, .int j] T) Q := .ok q
theorem v_ixL {k : Nat} {n : Int} {xs : List U} {u : U} (e : T[k]? = some (.lst xs)) (e2 : atI xs n = some u) (q : Q u T) : Wp (gIx (.ob k) (.int n) T) Q := by
  unfold gIx; simp only [e, e2]; exact .ok q
theorem v_ixT {n : Int} {xs : List U} {u : U} (e2 : atI xs n = some u) (q : Q u T) : Wp (gIx (.tup xs) (.int n) T) Q := by
  unfold gIx; simp only [e2]; exact .ok q
theorem v_ixN {n : Int} {xs : List Int} {u : Int} (e2 : atI xs n = some u) (q : Q (.int u) T) : Wp (gIx (.scr xs) (.int n) T) Q := by
  unfold gIx; simp only [e2]; exact .ok q
theorem v_all {k : Nat} {xs : List U} {bs : List Bool} (e : T[k]? = some (.lst xs)) (e2 : blsU xs = some bs) (q : Q (.bl (bs.all id)) T) : Wp (gAll [.ob k] T) Q := by
  unfold gAll lstU; simp only [e, Option.bind_some, e2]; exact .ok q
theorem v_any {k : Nat} {xs : List U} {bs : List Bool} (e : T[k]? = some (.lst xs)) (e2 : blsU xs = some bs) (q : Q (.bl (bs.any id)) T) : Wp (gAny [.ob k] T) Q := by
  unfold gAny lstU; simp only [e, Option.bind_some, e2]; exact .ok q
theorem v_sum {k : Nat} {xs : List U} {bs : List Int} (e : T[k]? = some (.lst xs)) (e2 : intsU xs = some bs) (q : Q (.int bs.sum) T) : Wp (gSum [.ob k] T) Q := by
  unfold gSum lstU; simp only [e, Option.bind_some, e2]; exact .ok q
theorem v_list {u : U} {xs : List U} (e : seqU T u = some xs) (q : Q (.ob T.length) (T ++ [.lst xs])) : Wp (gList [u] T) Q := by
  unfold gList; simp only [e]; exact .ok q
theorem v_tuple {u : U} {xs : List U} (e : seqU T u = some xs) (q : Q (.tup xs) T) : Wp (gTuple [u] T) Q := by
  unfold gTuple; simp only [e]; exact .ok q
theorem v_isi {u : U} {n m : String} (e : tyU T u = some n) (q : Wp (gIsi [u, .raw (.ty m)] T) Q) : Wp (gIsi [u, .raw (.ty m)] T) Q := q
theorem v_meth {is : Sto → U → Bool} {g : U → List U → M U} (q : Wp (Fe η T) fun o T1 => is T1 o = true ∧ Wp (Fr η T1) fun us T2 => Wp (g o us T2) Q) : Wp (fMeth is g Fe Fr η T) Q :=
  .bindE q fun _ _ q => by rw [if_pos q.1]; exact .bind q.2
theorem v_app {k : Nat} {xs : List U} {u : U} (e : T[k]? = some (.lst xs)) (q : xs.length < 16777216 ∧ Q .non (T.set k (.lst (xs ++ [u])))) : Wp (gAppend (.ob k) [u] T) Q := by
  unfold gAppend; simp only [e, q.1, if_true]; exact .ok q.2
theorem v_listRg1 {j : Int} (e : j ≤ 16777216 ∧ -4611686018427387904 ≤ j) (q : Q (.ob T.length) (T ++ [.lst (rgU 0 j.toNat)])) : Wp (gListRg1 [.int j] T) Q := by
  unfold gListRg1; simp only [e, and_self, if_true]; exact .ok q
theorem v_listRg2 {i j : Int} (e : -16777216 ≤ i ∧ i ≤ 16777216 ∧ -16777216 ≤ j ∧ j ≤ 16777216 ∧ j - i ≤ 16777216) (q : Q (.ob T.length) (T ++ [.lst (rgU i (j - i).toNat)])) : Wp (gListRg2 [.int i, .int j] T) Q := by
  unfold gListRg2; simp only [e, and_self, if_true]; exact .ok q
/-- a while loop, by an invariant and a measure -/
theorem v_while (I : Nat → Lo → Sto → Prop) (step : ∀ m η T, I m η T → Wp (Ft η T) fun b T1 => (b = true → 0 < m ∧ Wp (F η T1) (kF (I (m - 1)) QS)) ∧ (b = false → QS (.nx, η) T1)) : ∀ (m : Nat) (n : Nat) (η : Lo) (T : Sto), m < n → I m η T → Wp (fWhile n Ft F η T) QS
  | m, 0, _, _, hn, _ => absurd hn (Nat.not_lt_zero _)
  | m, n + 1, η, T, hn, hi => by
    unfold fWhile
    refine .bindE (step m η T hi) fun b T1 q => ?_
    cases b with
    | false => exact .ok (q.2 rfl)
    | true =>
      obtain ⟨hm, q⟩ := q.1 rfl
      rw [if_pos rfl]
      refine .bindE q fun p T2 h2 => ?_
      obtain ⟨f, η2⟩ := p
      cases f with
      | nx => exact v_while I step (m - 1) n η2 T2 (by omega) h2
      | ct => exact v_while I step (m - 1) n η2 T2 (by omega) h2
      | bk => exact .ok h2
      | rt u => exact .ok h2
end
end Lf


set_option Elab.async false
set_option linter.all false
set_option maxRecDepth 100000
namespace Lf
open PySem PySem.Spec L2
theorem big_int : PySem.intText? ⟨(49 :: List.replicate 300 48).toArray⟩ = some (10 ^ 300) := by
  decide +kernel
end Lf


set_option Elab.async false
set_option linter.all false
set_option maxRecDepth 100000
set_option maxHeartbeats 4000000
namespace Lf
open PySem PySem.Spec L2
theorem emod_bd {a n : Int} (h : 0 < n) : 0 ≤ a % n ∧ a % n < n := ⟨Int.emod_nonneg _ (by omega), Int.emod_lt_of_pos _ h⟩
theorem Sm.lt {i n : Int} (h0 : 0 ≤ i) (h1 : i < n) (h : Sm n) : Sm i := ⟨by have := h.1; omega, by have := h.2; omega⟩
local macro_rules | `(tactic| rfl') => `(tactic| repeat (first | with_reducible refine Lf.kS_nx ?_ | with_reducible refine Lf.kS_rt ?_ | with_reducible refine Lf.kS_bk ?_ | with_reducible refine Lf.kS_ct ?_ | with_reducible refine Lf.kD_rt ?_ | with_reducible refine Lf.kD_nx ?_ | with_reducible refine Lf.kF_nx ?_ | with_reducible refine Lf.kF_ct ?_ | with_reducible refine Lf.kF_bk ?_ | with_reducible refine Lf.kF_rt ?_ | with_reducible refine Lf.v_ifT ?_ | with_reducible refine Lf.v_ifF ?_ | with_reducible refine Lf.v_ifNT ?_ | with_reducible refine Lf.v_ifNF ?_ | with_reducible refine Lf.kP_int ?_ | with_reducible refine Lf.kP_bl ?_ | with_reducible refine Lf.kP_str ?_ | with_reducible refine Lf.kP_non ?_ | with_reducible refine Lf.v_iadd ?_ | with_reducible refine Lf.Wp.ok ?_ | with_reducible refine Lf.seq_wp ?_ | with_reducible refine Lf.v_bin ?_ | with_reducible refine Lf.v_cons ?_ | with_reducible refine Lf.v_call ?_ | with_reducible refine Lf.v_ret ?_ | with_reducible refine Lf.v_set ?_ | with_reducible refine Lf.v_asg ?_ | with_reducible refine Lf.v_if ?_ | with_reducible refine Lf.v_ifE ?_ | with_reducible refine Lf.v_bl ?_ | with_reducible refine Lf.v_tru ?_ | with_reducible refine Lf.v_and ?_ | with_reducible refine Lf.v_or ?_ | with_reducible refine Lf.v_not ?_ | with_reducible refine Lf.v_andV ?_ | with_reducible refine Lf.v_orV ?_ | with_reducible refine Lf.v_notV ?_ | with_reducible refine Lf.v_c ?_ | with_reducible refine Lf.v_nil ?_ | with_reducible refine Lf.v_skip ?_ | with_reducible refine Lf.v_drop ?_ | with_reducible refine Lf.v_retN ?_ | with_reducible refine Lf.v_brk ?_ | with_reducible refine Lf.v_cnt ?_ | with_reducible refine Lf.v_nm ?_ | with_reducible refine Lf.v_gnil ?_ | with_reducible refine Lf.v_gcons ?_ | with_reducible refine Lf.v_yes ?_ | with_reducible refine Lf.v_for ?_ | with_reducible refine Lf.v_lc ?_ | with_reducible refine Lf.v_rg ?_ | with_reducible refine Lf.v_iter ?_ | with_reducible refine Lf.v_iterT ?_ | with_reducible refine Lf.v_add ?_ | with_reducible refine Lf.v_sub ?_ | with_reducible refine Lf.v_neg ?_ | with_reducible refine Lf.v_lt ?_ | with_reducible refine Lf.v_le ?_ | with_reducible refine Lf.v_gt ?_ | with_reducible refine Lf.v_ge ?_ | with_reducible refine Lf.v_eqI ?_ | with_reducible refine Lf.v_neI ?_ | with_reducible refine Lf.v_abs ?_ | with_reducible refine Lf.v_intI ?_ | with_reducible refine Lf.v_intB ?_ | with_reducible refine Lf.v_max2 ?_ | with_reducible refine Lf.v_min2 ?_ | with_reducible refine Lf.v_lenT ?_ | with_reducible refine Lf.v_lenN ?_ | with_reducible refine Lf.v_nw ?_ | with_reducible refine Lf.v_un ?_ | with_reducible refine Lf.v_tup ?_ | with_reducible refine Lf.v_lst ?_ | with_reducible refine Lf.v_par2 ?_ | with_reducible refine Lf.v_par3 ?_ | with_reducible refine Lf.v_chain ?_ | with_reducible refine Lf.v_meth ?_ | with_reducible refine Lf.v_subT ?_ | with_reducible refine Lf.v_isiIB ?_ | with_reducible refine Lf.v_isiII ?_ | with_reducible refine Lf.v_sl ?_ | with_reducible refine Lf.v_noP ?_ | with_reducible refine Lf.v_pt ?_ | with_reducible refine Lf.v_cutT ?_ | ((with_reducible apply Lf.v_var); exact rfl) | ((with_reducible refine Lf.v_kw ?_ ?_); exact rfl) | ((with_reducible apply Lf.v_iterO); first | exact rfl | assumption) | ((with_reducible apply Lf.v_lenL); first | exact rfl | assumption) | ((with_reducible refine Lf.v_unp ?_ ?_); exact rfl) | ((with_reducible apply Lf.v_aug); exact rfl) | ((with_reducible refine Lf.v_mod ?_ ?_); first | decide | omega | assumption | fail) | ((with_reducible refine Lf.v_div ?_ ?_); first | exact ⟨by decide, by decide +kernel⟩ | assumption | exact Lf.log2d (by omega) ⟨by omega, by omega⟩ | fail) | ((with_reducible refine Lf.v_mul ?_ ?_); first | exact Lf.log2m ⟨by omega, by omega⟩ ⟨by omega, by omega⟩ | exact Lf.log2m (by assumption) ⟨by omega, by omega⟩ | exact Lf.log2m ⟨by omega, by omega⟩ (by assumption) | fail) | ((with_reducible refine Lf.v_pow ?_ ?_); exact ⟨by decide, by decide, by decide⟩) | ((with_reducible refine Lf.v_rg1 ?_ ?_); first | decide | fail) | ((with_reducible apply Lf.v_ixL); (first | exact rfl | assumption | fail); (first | exact rfl | assumption | fail)) | ((with_reducible apply Lf.v_ixT); (first | exact rfl | assumption | fail)) | ((with_reducible apply Lf.v_ixN); (first | exact rfl | assumption | fail)) | with_reducible refine ⟨_, rfl, ?_⟩ | (refine ⟨_, (rfl : Lf.tru _ (Lf.U.bl _) = some _), ?_⟩) | with_reducible refine ⟨_, _, rfl, ?_⟩ | with_reducible refine ⟨_, _, _, rfl, ?_⟩ | (refine ⟨(Nat.le_of_ble_eq_true rfl : List.length _ ≤ 16777216), ?_⟩) | with_reducible refine Lf.v_enum ?_ | fail))
theorem tkA_ok {o : O} {n : Int} (u : Urn o) (hn : 0 < n) (hn2 : Sm n) :
    Wp (gDef 4 tkA [.ob 0, .int n] [o]) fun r T => ∃ i o', r = .int i ∧ 0 ≤ i ∧ i < n ∧ Urn o' ∧ T = [o'] := by
  obtain ⟨a, b, rfl, hb, hb2⟩ := u
  have hd := log2d hn hn2
  refine gDef_wp ?_
  unfold tkA
  rfl'
  refine v_ifd (fun h => ?_) (fun h => ?_)
  · rfl'
    exact ⟨_, _, rfl, (emod_bd hn).1, (emod_bd hn).2, ⟨_, _, rfl, hb, hb2⟩, rfl⟩
  · rfl'
    refine v_ifd (fun h => ?_) (fun h => ?_)
    · rfl'
      exact ⟨_, _, rfl, (emod_bd hn).1, (emod_bd hn).2, ⟨_, _, rfl, (emod_bd (by decide)).1, (emod_bd (by decide)).2⟩, rfl⟩
    · rfl'
      exact ⟨_, _, rfl, (emod_bd hn).1, (emod_bd hn).2, ⟨_, _, rfl, (emod_bd (by decide)).1, (emod_bd (by decide)).2⟩, rfl⟩
theorem takeA {g : List U → M U} (hg : g = gDef 4 tkA) {T : Sto} {i : Nat} {o : O} {n : Int} {Q : U → Sto → Prop} (ht : T[i]? = some o) (u : Urn o) (hn : 0 < n) (hn2 : Sm n) (q : ∀ j o', 0 ≤ j → j < n → Urn o' → Q (.int j) (T.set i o')) :
    Wp (kdG .urn 2 g [.ob i, .int n] T) Q := by
  subst hg
  refine urn_wp rfl rfl ht u.nr (.mono (tkA_ok u hn hn2) ?_)
  rintro _ _ ⟨j, o', rfl, h1, h2, u', rfl⟩
  exact ⟨o', [], rfl, u'.nr, rfl, q j o' h1 h2 u'⟩
/-! _law_of -/
def ofA (tk : List U → M U) : FxS := fRet (fBin gIx (fVar 1) (fCall (kdG .urn 2 tk) (fCons (fVar 0) (fCons (fCall gLen (fCons (fVar 1) (fNil))) (fNil)))))
theorem atI_mem {α : Type} {xs : List α} {n : Int} (h0 : 0 ≤ n) (h1 : n < xs.length) : ∃ u, atI xs n = some u ∧ u ∈ xs := by
  have h : n.toNat < xs.length := by omega
  refine ⟨xs[n.toNat], ?_, List.getElem_mem h⟩
  unfold atI ixN
  simp only [h0, h1, if_true, Option.bind_some, List.getElem?_eq_getElem h]
theorem ofA_ok {tk g : List U → M U} (hg : tk = gDef 4 tkA) (hf : g = gDef 2 (ofA tk)) {T : Sto} {i k : Nat} {o : O} {xs : List U} {Q : U → Sto → Prop} (ht : T[i]? = some o) (u : Urn o) (hx : T[k]? = some (.lst xs)) (hik : i ≠ k) (h0 : xs ≠ []) (hl : xs.length ≤ 16777216) (q : ∀ x o', x ∈ xs → Urn o' → Q x (T.set i o')) :
    Wp (kdG .len 2 g [.ob i, .ob k] T) Q := by
  subst hf
  have hp : 0 < xs.length := List.length_pos_iff.mpr h0
  refine len_wp rfl (gDef_wp ?_)
  unfold ofA
  rfl'
  refine takeA hg ht u (by omega) ⟨by omega, by omega⟩ fun j o' h1 h2 u' => ?_
  obtain ⟨x, e, hm⟩ := atI_mem h1 h2
  refine v_ixL (xs := xs) (by rw [List.getElem?_set_ne hik]; exact hx) e ?_
  rfl'
  exact q x o' hm u'
theorem ofA_tup {tk g : List U → M U} (hg : tk = gDef 4 tkA) (hf : g = gDef 2 (ofA tk)) {T : Sto} {i : Nat} {o : O} {xs : List U} {Q : U → Sto → Prop} (ht : T[i]? = some o) (u : Urn o) (h0 : xs ≠ []) (hl : xs.length ≤ 16777216) (q : ∀ x o', x ∈ xs → Urn o' → Q x (T.set i o')) :
    Wp (kdG .len 2 g [.ob i, .tup xs] T) Q := by
  subst hf
  have hp : 0 < xs.length := List.length_pos_iff.mpr h0
  refine len_wp rfl (gDef_wp ?_)
  unfold ofA
  rfl'
  refine takeA hg ht u (by omega) ⟨by omega, by omega⟩ fun j o' h1 h2 u' => ?_
  obtain ⟨x, e, hm⟩ := atI_mem h1 h2
  refine v_ixT e ?_
  rfl'
  exact q x o' hm u'
/-! _law_urn -/
def urA : FxS := fSeq (fSet 2 (fIfE (fBl (fBin gLt (fVar 1) (fCall gLen (fCons (fVar 0) (fNil))))) (fBin gIx (fVar 0) (fVar 1)) (fBin gAdd (fBin gMul (fC (.int 3)) (fVar 1)) (fC (.int 1))))) (fSeq (fSet 3 (fBin gMul (fBin gMod (fCall gAbs (fCons (fVar 2) (fNil))) (fCall gInt (fCons (fBin gAdd (fC (.str "1")) (fBin gMul (fC (.str "0")) (fC (.int 300)))) (fNil)))) (fCall gInt (fCons (fBin gGe (fCall gAbs (fCons (fVar 2) (fNil))) (fBin gPow (fC (.int 10)) (fC (.int 18)))) (fNil))))) (fRet (fLst (fCons (fVar 3) (fCons (fBin gMod (fBin gMul (fBin gAdd (fBin gAdd (fBin gMod (fVar 2) (fC (.int 2305843009213693951))) (fBin gMul (fBin gMul (fC (.int 7919)) (fVar 1)) (fVar 1))) (fC (.int 11))) (fC (.int 48271))) (fC (.int 2305843009213693951))) (fNil))))))
theorem big_rep : strRep ("0" : Str) 300 = ⟨(List.replicate 300 48).toArray⟩ := by
  unfold strRep
  congr 1
theorem big_mul {T : Sto} : gMul (.str "0") (.int 300) T = .ok (.str ⟨(List.replicate 300 48).toArray⟩) T := by
  have e : (-1000000 < (300 : Int) ∧ (300 : Int) < 1000000 ∧ (Str.ofString "0").length < 1000 ∧ (strRep (Str.ofString "0") 300).length ≤ 16777216 ∧ (Str.ofString "0").length * (300 : Int).toNat ≤ 16777216) := by
    rw [big_rep]
    decide +kernel
  unfold gMul
  simp only []
  rw [if_pos e, if_neg (by decide), if_neg (by decide +kernel), big_rep]
theorem big_add {T : Sto} : gAdd (.str "1") (.str ⟨(List.replicate 300 48).toArray⟩) T = .ok (.str ⟨(49 :: List.replicate 300 48).toArray⟩) T := by
  unfold gAdd
  simp only []
  rw [if_pos (by decide +kernel), show (Str.ofString "1" ++ ⟨(List.replicate 300 48).toArray⟩ : Str) = ⟨(49 :: List.replicate 300 48).toArray⟩ from by decide +kernel]
theorem big_gint {T : Sto} : gInt [.str ⟨(49 :: List.replicate 300 48).toArray⟩] T = .ok (.int (10 ^ 300)) T := by
  unfold gInt
  simp only [big_int]
  rw [if_pos (by decide +kernel)]
theorem urA_big {η : Lo} {T : Sto} : fCall gInt (fCons (fBin gAdd (fC (.str "1")) (fBin gMul (fC (.str "0")) (fC (.int 300)))) (fNil)) η T = .ok (.int (10 ^ 300)) T := by
  simp only [fCall, fCons, fBin, fC, fNil, R.bind_ok, big_mul, big_add, big_gint]
theorem v_big {η : Lo} {T : Sto} {Q : U → Sto → Prop} (q : Q (.int (10 ^ 300)) T) : Wp (fCall gInt (fCons (fBin gAdd (fC (.str "1")) (fBin gMul (fC (.str "0")) (fC (.int 300)))) (fNil)) η T) Q := by
  rw [urA_big]; exact .ok q
theorem abs_nn (c : Int) : 0 ≤ (if c < 0 then -c else c) := by split <;> omega
theorem urA_ok {g : List U → M U} (hg : g = gDef 4 urA) {ns : List Int} {k : Int} {Q : U → Sto → Prop} {T : Sto} (hk : 0 ≤ k) (hk2 : k < 1000) (q : ∀ o, Urn o → Q (.ob T.length) (T ++ [o])) : Wp (kdG .pur 2 g [.scr ns, .int k] T) Q := by
  subst hg
  refine pur_wp rfl rfl (gDef_wp ?_)
  unfold urA
  refine seq_wp (v_set (.mono (Q := fun u T1 => ∃ c, u = .int c ∧ T1 = []) ?_ ?_))
  · rfl'
    refine v_ifd (fun h => ?_) (fun h => ?_)
    · rfl'
      obtain ⟨x, e, _⟩ := atI_mem (xs := ns) hk h
      refine v_ixN e ?_
      exact ⟨_, rfl, rfl⟩
    · rfl'
      first | done | exact rfl | exact ⟨_, rfl, rfl⟩
  rintro _ _ ⟨c, rfl, rfl⟩
  have hp : (0 : Int) < 10 ^ 300 := by decide +kernel
  set_option exponentiation.threshold 2000 in
  have hm : ((if c < 0 then -c else c) % (10 ^ 300 : Int)).natAbs.log2 < 999998 := by
    have h := emod_bd (a := if c < 0 then -c else c) hp
    generalize (if c < 0 then -c else c) % (10 ^ 300 : Int) = z at h
    have e : ((10 : Int) ^ 300) < 2 ^ 999 := by decide +kernel
    by_cases h0 : z.natAbs = 0
    · rw [h0]; decide
    · refine Nat.lt_trans ((Nat.log2_lt h0).mpr (?_ : z.natAbs < 2 ^ 999)) (by decide)
      have e1 : ((z.natAbs : Nat) : Int) = z := Int.natAbs_of_nonneg h.1
      have e2 : (((2 ^ 999 : Nat)) : Int) = (2 : Int) ^ 999 := by decide +kernel
      omega
  refine Lf.kS_nx (seq_wp (v_set (v_bin (v_bin (v_call (v_cons (v_var rfl (v_nil (v_abs (v_big (v_mod hp ?_)))))))))))
  generalize (if c < 0 then -c else c) % (10 ^ 300 : Int) = z at hm ⊢
  rfl'
  refine v_mul ?_ ?_
  · have this : ∀ b : Bool, (if b = true then (1 : Int) else 0).natAbs.log2 ≤ 1 := by decide
    exact Nat.lt_of_le_of_lt (Nat.add_le_add_left (this _) _) (by omega)
  have hkk : 7919 * k * k = 7919 * (k * k) := Int.mul_assoc ..
  have h1 : 0 ≤ k * k := Int.mul_nonneg hk hk
  have h2 : k * k ≤ 1000 * 1000 := Int.mul_le_mul (by omega) (by omega) hk (by omega)
  have hs : Sm (c % 2305843009213693951 + 7919 * k * k + 11) := ⟨by omega, by omega⟩
  rfl'
  exact ⟨rfl, q _ ⟨_, _, rfl, (emod_bd (by decide)).1, (emod_bd (by decide)).2⟩⟩
end Lf


set_option Elab.async false
set_option linter.all false
set_option maxRecDepth 100000
set_option maxHeartbeats 4000000
namespace Lf
open PySem PySem.Spec L2
/-- a loop over a list in the store -/
theorem wp_forL {G : U → Lo → M Lo} {Fb : FxS} {k : Nat} {xs : List U} (I : Nat → Lo → Sto → Prop) {Q : Fl × Lo → Sto → Prop} {η : Lo} {T : Sto} (h0 : I 0 η T)
    (hk : ∀ i η T, I i η T → T[k]? = some (.lst xs))
    (step : ∀ i x η T, xs[i]? = some x → I i η T → Wp (G x η T) fun η1 T1 => Wp (Fb η1 T1) (kF (I (i + 1)) Q))
    (hend : ∀ η T, I xs.length η T → Q (.nx, η) T) : Wp (forN G Fb (objI k xs.length).fin (objI k xs.length).its η T) Q := by
  unfold objI
  rw [List.range_eq_range']
  exact wp_forO k xs I hk step hend xs.length 0 η T (Nat.zero_add _) h0
theorem wp_forC {G : U → Lo → M Lo} {Fb : FxS} {xs : List U} (I : List U → Lo → Sto → Prop) {Q : Fl × Lo → Sto → Prop} {η : Lo} {T : Sto} (h0 : I xs η T)
    (step : ∀ x r η T, I (x :: r) η T → Wp (G x η T) fun η1 T1 => Wp (Fb η1 T1) (kF (I r) Q))
    (hend : ∀ η T, I [] η T → Q (.nx, η) T) : Wp (forN G Fb (constI xs).fin (constI xs).its η T) Q :=
  wp_for I (fun _ => rfl) step hend xs η T h0
theorem wp_lcC {G : U → Lo → M Lo} {Ft : FxT} {Fe : FxE} {η : Lo} {xs : List U} (I : List U → List U → Sto → Prop) {Q : U → Sto → Prop} {T : Sto} (h0 : I xs [] T)
    (step : ∀ x r acc T, I (x :: r) acc T → Wp (G x η T) fun η1 T1 => Wp (Ft η1 T1) fun b T2 => (b = true → Wp (Fe η1 T2) fun y T3 => acc.length < 16777216 ∧ I r (acc ++ [y]) T3) ∧ (b = false → I r acc T2))
    (hend : ∀ acc T, I [] acc T → Q (.ob T.length) (T ++ [.lst acc])) : Wp (lcN G Ft Fe (constI xs).fin η (constI xs).its [] T) Q :=
  wp_lc I (fun _ => rfl) (fun x r acc T h => (step x r acc T h).mono fun η1 T1 h => h.mono fun b T2 h => by
    cases b
    · exact h.2 rfl
    · exact h.1 rfl) hend xs [] T h0
theorem small62_of {i : Int} (h1 : -1000000000000 < i) (h2 : i < 1000000000000) : small62 i = true := by
  unfold small62
  rw [decide_eq_true (by omega), decide_eq_true (by omega)]
  rfl
theorem rgU_mem {lo : Int} {n : Nat} {x : U} (h : x ∈ rgU lo n) : ∃ i, x = .int i ∧ lo ≤ i ∧ i < lo + n := by
  unfold rgU at h
  obtain ⟨k, hk, rfl⟩ := List.mem_map.mp h
  have := List.mem_range.mp hk
  exact ⟨_, rfl, by omega, by omega⟩
theorem rgU_len {lo : Int} {n : Nat} : (rgU lo n).length = n := by
  unfold rgU
  rw [List.length_map, List.length_range]
theorem v_isiIB {i : Int} {T : Sto} {Q : U → Sto → Prop} (q : Q (.bl false) T) : Wp (gIsi [.int i, .raw (.ty "bool")] T) Q := .ok q
theorem v_isiII {i : Int} {T : Sto} {Q : U → Sto → Prop} (q : Q (.bl true) T) : Wp (gIsi [.int i, .raw (.ty "int")] T) Q := .ok q
theorem v_kw {kd : Kd} {n m : Nat} {ix : List Nat} {g : List U → M U} {us : List U} {T : Sto} {Q : U → Sto → Prop} (hl : us.length = m) (q : Wp (kdG kd n g (pick ix us) T) Q) : Wp (kwG kd n m ix g us T) Q := by
  simpa only [kwG, hl, if_true] using q
theorem v_ifNT {X Y : Prop} (h : Y) : ((!true) = true → X) ∧ ((!true) = false → Y) := ⟨fun h => (nomatch h), fun _ => h⟩
theorem v_ifNF {X Y : Prop} (h : X) : ((!false) = true → X) ∧ ((!false) = false → Y) := ⟨fun _ => h, fun h => (nomatch h)⟩
/-- a test whose answer is known -/
theorem v_yesd {p : Prop} [Decidable p] {X Y : Prop} (hp : p) (h : X) : (decide p = true → X) ∧ (decide p = false → Y) := v_ifd (fun _ => h) (fun z => absurd hp z)
theorem v_nod {p : Prop} [Decidable p] {X Y : Prop} (hp : ¬p) (h : Y) : (decide p = true → X) ∧ (decide p = false → Y) := v_ifd (fun z => absurd z hp) (fun _ => h)
theorem v_yesn {p : Prop} [Decidable p] {X Y : Prop} (hp : p) (h : Y) : ((!decide p) = true → X) ∧ ((!decide p) = false → Y) := v_ifdn (fun _ => h) (fun z => absurd hp z)
theorem v_non {p : Prop} [Decidable p] {X Y : Prop} (hp : ¬p) (h : X) : ((!decide p) = true → X) ∧ ((!decide p) = false → Y) := v_ifdn (fun z => absurd z hp) (fun _ => h)
end Lf


set_option Elab.async false
set_option linter.all false
set_option maxRecDepth 100000
set_option maxHeartbeats 4000000
/-! ## in, repr, what is never reached -/
namespace Lf
open PySem PySem.Spec L2
def fV : U → Option V
  | .non => some .non
  | .bl b => some (.bl b)
  | .int i => some (.int i)
  | .str x => some (.str x)
  | _ => none
def fVs : List U → Option (List V)
  | [] => some []
  | u :: us => match fV u, fVs us with
    | some v, some vs => some (v :: vs)
    | _, _ => none
def gIn (neg : Bool) : U → U → M U := fun x y T => match fV x, (seqU T y).bind fVs with
  | some a, some bs => .ok (.bl (if neg then !inV a bs else inV a bs)) T
  | _, _ => .no
def gRepr : List U → M U := fun us T => match us with
  | [.int i] => if i.natAbs.log2 < 1920 then .ok (.str (toString i)) T else .no
  | [.bl b] => .ok (.str (if b then "True" else "False")) T
  | [.non] => .ok (.str "None") T
  | [.str x] => if (reprText x).length ≤ 16777216 then .ok (.str (reprText x)) T else .no
  | [.tup xs] => match dat T 66 (.tup xs) with
    | some d => if d.showable = true ∧ SeqAt.shaped d = true ∧ d.shown.length ≤ 16777216 then .ok (.str d.shown) T else .no
    | none => .no
  | [.ob k] => match dat T 66 (.ob k) with
    | some d => if d.showable = true ∧ SeqAt.shaped d = true ∧ d.shown.length ≤ 16777216 then .ok (.str d.shown) T else .no
    | none => .no
  | _ => .no
def fNo {α : Type} : Lo → M α := fun _ _ => .no
section
variable {X : Cx} {E : XK}
theorem fV_ok {K : PySem.W.Frag} {ρ : List Addr} {H : Hp} {u : U} {v w : V} (r : RV K ρ H u v) (e : fV u = some w) : v = w ∧ flatV w = true := by
  cases r <;> first | (cases e; exact ⟨rfl, rfl⟩) | cases e
theorem fVs_ok {K : PySem.W.Frag} {ρ : List Addr} {H : Hp} : ∀ {us : List U} {vs ws : List V}, RVs K ρ H us vs → fVs us = some ws → vs = ws ∧ ws.all flatV = true
  | _, _, _, .nil, e => by cases e; exact ⟨rfl, rfl⟩
  | u :: us, _, ws, .cons r rs, e => by
    unfold fVs at e
    split at e
    · rename_i w ws' e1 e2
      cases e
      obtain ⟨rfl, h1⟩ := fV_ok r e1
      obtain ⟨rfl, h2⟩ := fVs_ok rs e2
      exact ⟨rfl, by rw [List.all_cons, h1, h2]; rfl⟩
    · cases e
theorem gIn_ok {ρ : List Addr} {H : Hp} {T : Sto} {u w : U} {x y : V} {Q : V → Hp → Prop} {neg : Bool} (s : RS X.K ρ H T) (ru : RV X.K ρ H u x) (rw_ : RV X.K ρ H w y) (h : OK X.K ρ H E (rV X.K) (gIn neg u w T) Q) : rIn X.K neg x y H Q := by
  unfold gIn at h
  split at h
  · rename_i a bs e1 e2
    obtain ⟨xs, e3, e4⟩ := Option.bind_eq_some_iff.mp e2
    obtain ⟨p, vs, rfl, hq, rs, _⟩ := seqU_ok s rw_ e3
    obtain ⟨rfl, h1⟩ := fV_ok ru e1
    obtain ⟨rfl, h2⟩ := fVs_ok rs e4
    exact ⟨p, _, rfl, hq, h1, h2, okV s h (.bl _)⟩
  · exact False.elim h
theorem fop_in : FOp X E (compareOp .In) (gIn false) := ⟨_, op_in_seq, fun ρ H T u w x y Q s ru rw h => gIn_ok s ru rw h⟩
theorem fop_notIn : FOp X E (compareOp .NotIn) (gIn true) := ⟨_, op_notIn_seq, fun ρ H T u w x y Q s ru rw h => gIn_ok s ru rw h⟩
theorem u66 {k : Nat} {A : Around} (r : Room k A) : A.units + 66 < cLine := by have := r.un; omega
/-! repr -/
def rRepr (K : PySem.W.Frag) : List V → Hp → VK → Prop := fun xs H Q =>
  (∃ i, xs = [.int i] ∧ i.natAbs.log2 < 1920 ∧ Q (.str (toString i)) H) ∨ (∃ b, xs = [.bl b] ∧ Q (.str (if b then "True" else "False")) H) ∨ (xs = [.non] ∧ Q (.str "None") H) ∨
  (∃ x, xs = [.str x] ∧ (reprText x).length ≤ sizeLine ∧ Q (.str (reprText x)) H) ∨
  (∃ a d, xs = [.ref a] ∧ Dp K H (.ref a) d ∧ d.showable = true ∧ SeqAt.shaped d = true ∧ d.shown.length ≤ sizeLine ∧ Q (.str d.shown) H)
theorem shaped_at {d : PyData} (h : SeqAt.shaped d = true) : d.canLay0 = true ∧ d.depth ≤ 64 := by
  have h : (d.canLay0 && decide (d.depth ≤ 64)) = true := h
  rw [Bool.and_eq_true, decide_eq_true_eq] at h
  exact h
theorem call_reprA (gd : X.A.guards = some []) (hu : X.A.units + 66 < cLine) : CallR X (.builtin "repr") (rRepr X.K) := by
  intro pins s σ H xs us Q I r h
  rcases h with ⟨i, rfl, hz, q⟩ | ⟨b, rfl, q⟩ | ⟨rfl, q⟩ | ⟨x, rfl, hz, q⟩ | ⟨a, d, rfl, hd, h1, h2, h3, q⟩
  · obtain ⟨u, rfl, t, rfl⟩ := vals1 r
    exact PySem.P.repr_of_int hz ⟨.str _, H, I.tok _, ⟨_, rfl⟩, q⟩
  · obtain ⟨u, rfl, rfl⟩ := vals1 r
    exact PySem.P.repr_of_bool ⟨.str _, H, I.tok _, ⟨_, rfl⟩, q⟩
  · obtain ⟨u, rfl, rfl⟩ := vals1 r
    exact PySem.P.repr_of_none ⟨.str _, H, I.tok _, ⟨_, rfl⟩, q⟩
  · obtain ⟨u, rfl, t, rfl⟩ := vals1 r
    exact PySem.P.repr_of_str ⟨.str _, H, I.tok _, ⟨_, rfl⟩, q⟩ hz
  · obtain ⟨u, rfl, rfl⟩ := vals1 r
    obtain ⟨as, rd⟩ := Dp.reads I d _ _ hd rfl
    have h4 := shaped_at h2
    exact PySem.repr_of_reads' rd h1 (PyData.noDict_hsm (PyData.hasDict_of_canLay d h4.1)) gd (by omega) (fun b o e => e) (fun h' u tk hk => ⟨.str _, H, I.kept hk, ⟨_, rfl⟩, q⟩) h3
theorem fcl_repr (gd : X.A.guards = some []) (hu : X.A.units + 66 < cLine) : FCall X E (.builtin "repr") gRepr := by
  refine ⟨_, call_reprA gd hu, fun ρ H T us xs Q s r h => ?_⟩
  have sz : sizeLine = 16777216 := sizeLine_eq
  unfold gRepr at h
  split at h
  · split at h
    · rename_i i hi
      match r with
      | .cons (.int _) .nil => exact .inl ⟨i, rfl, hi, okV s h (.str _)⟩
    · exact False.elim h
  · match r with
    | .cons (.bl b) .nil => exact .inr (.inl ⟨b, rfl, okV s h (.str _)⟩)
  · match r with
    | .cons .non .nil => exact .inr (.inr (.inl ⟨rfl, okV s h (.str _)⟩))
  · split at h
    · rename_i x hx
      match r with
      | .cons (.str _) .nil => exact .inr (.inr (.inr (.inl ⟨x, rfl, by rw [sz]; exact hx, okV s h (.str _)⟩)))
    · exact False.elim h
  · split at h
    · rename_i ys d e
      split at h
      · rename_i hd
        match r with
        | .cons r .nil =>
          have dp := dat_ok s _ _ _ _ r e
          cases r with
          | tup _ _ => exact .inr (.inr (.inr (.inr ⟨_, d, rfl, dp, hd.1, hd.2.1, by rw [sz]; exact hd.2.2, okV s h (.str _)⟩)))
      · exact False.elim h
    · exact False.elim h
  · split at h
    · rename_i k d e
      split at h
      · rename_i hd
        match r with
        | .cons r .nil =>
          have dp := dat_ok s _ _ _ _ r e
          cases r with
          | ob _ => exact .inr (.inr (.inr (.inr ⟨_, d, rfl, dp, hd.1, hd.2.1, by rw [sz]; exact hd.2.2, okV s h (.str _)⟩)))
      · exact False.elim h
    · exact False.elim h
  · exact False.elim h
/-! what is never reached -/
theorem fe_no {e : Expr} : FE X E e fNo := ⟨fun _ _ _ => False, ⟨fun _ _ _ _ _ _ h => h.elim⟩, fun _ _ _ _ _ _ _ _ h => h.elim⟩
theorem ft_no {e : Expr} : FT X E e fNo := ⟨fun _ _ _ => False, ⟨fun _ _ _ _ _ _ h => h.elim⟩, fun _ _ _ _ _ _ _ _ h => h.elim⟩
theorem fs_no {st : Stmt} : FS X E st fNo := ⟨fun _ _ _ => False, ⟨fun _ _ _ _ _ _ h => h.elim⟩, fun _ _ _ _ _ _ _ _ h => h.elim⟩
theorem fi_no {tg iter : Expr} : FI X E tg iter fNo := ⟨fun _ _ _ => False, ⟨fun _ _ _ _ _ _ h => h.elim⟩, fun _ _ _ _ _ _ _ _ h => h.elim⟩
end
end Lf


set_option Elab.async false
set_option linter.all false
set_option maxRecDepth 100000
set_option maxHeartbeats 4000000
/-! ## the programs that the first laws draw -/
namespace Lf
open PySem PySem.Spec L2
section
variable {T : Sto} {Q : U → Sto → Prop}
theorem v_yesb {c : Bool} {X Y : Prop} (h : c = true) (q : X) : (c = true → X) ∧ (c = false → Y) := by subst h; exact v_ifT q
theorem v_nob {c : Bool} {X Y : Prop} (h : c = false) (q : Y) : (c = true → X) ∧ (c = false → Y) := by subst h; exact v_ifF q
theorem shaped_str {z : Str} (h : PyData.strOk z = true) : SeqAt.shaped (.str z) = true := by simp [SeqAt.shaped, PyData.canLay0, PyData.depth, h]
theorem eqv_str (x y : Str) : PyData.eqv (.str x) (.str y) = decide (x = y) := by unfold PyData.eqv; rfl
theorem v_eqS {x y : Str} (hx : PyData.strOk x = true) (hy : PyData.strOk y = true) (q : Q (.bl (decide (x = y))) T) : Wp (gEq false (.str x) (.str y) T) Q := .ok q
theorem v_neS {x y : Str} (hx : PyData.strOk x = true) (hy : PyData.strOk y = true) (q : Q (.bl (decide (x ≠ y))) T) : Wp (gEq true (.str x) (.str y) T) Q := by
  refine .ok ?_
  rw [show (if true = true then !decide (x = y) else decide (x = y)) = decide (x ≠ y) from (decide_not ..).symm]
  exact q
theorem v_neT {x y : Str} (q : Q (.bl (decide (x ≠ y))) T) : Wp (gEq true (.str x) (.str y) T) Q := by
  refine .ok ?_
  rw [show (if true = true then !decide (x = y) else decide (x = y)) = decide (x ≠ y) from (decide_not ..).symm]
  exact q
theorem v_in2 {x a b : Str} (q : Q (.bl (inV (.str x) [.str a, .str b])) T) : Wp (gIn false (.str x) (.tup [.str a, .str b]) T) Q := .ok q
end
/-- T' is T but for the urn at i, and more objects -/
structure Ext (i : Nat) (T T' : Sto) : Prop where
  urn : ∃ o, T'[i]? = some o ∧ Urn o
  kp : ∀ j, j ≠ i → j < T.length → T'[j]? = T[j]?
  le : T.length ≤ T'.length
theorem Ext.refl {i : Nat} {T : Sto} {o : O} (h : T[i]? = some o) (u : Urn o) : Ext i T T := ⟨⟨o, h, u⟩, fun _ _ _ => rfl, Nat.le_refl _⟩
theorem Ext.trans {i : Nat} {T T1 T2 : Sto} (a : Ext i T T1) (b : Ext i T1 T2) : Ext i T T2 := ⟨b.urn, fun j h1 h2 => (b.kp j h1 (Nat.lt_of_lt_of_le h2 a.le)).trans (a.kp j h1 h2), Nat.le_trans a.le b.le⟩
theorem Ext.set {i : Nat} {T : Sto} {o : O} (h : i < T.length) (u : Urn o) : Ext i T (T.set i o) := ⟨⟨o, List.getElem?_set_self h, u⟩, fun j h1 h2 => List.getElem?_set_ne (Ne.symm h1), by rw [List.length_set]; exact Nat.le_refl _⟩
theorem Ext.add {i : Nat} {T : Sto} {o o' : O} (h : T[i]? = some o) (u : Urn o) : Ext i T (T ++ [o']) := ⟨⟨o, by rw [List.getElem?_append_left (List.getElem?_eq_some_iff.mp h).1]; exact h, u⟩, fun j h1 h2 => List.getElem?_append_left h2, by rw [List.length_append]; exact Nat.le_add_right _ _⟩
theorem Ext.at_ {i j : Nat} {T T' : Sto} {o : O} (a : Ext i T T') (h : T[j]? = some o) (hj : j ≠ i) : T'[j]? = some o := (a.kp j hj (List.getElem?_eq_some_iff.mp h).1).trans h
theorem lt_at {i : Nat} {T : Sto} {o : O} (h : T[i]? = some o) : i < T.length := (List.getElem?_eq_some_iff.mp h).1
theorem takeE {g : List U → M U} (hg : g = gDef 4 tkA) {T : Sto} {i : Nat} {n : Int} {Q : U → Sto → Prop} (a : ∃ o, T[i]? = some o ∧ Urn o) (hn : 0 < n) (hn2 : Sm n) (q : ∀ j T', 0 ≤ j → j < n → Ext i T T' → T'.length = T.length → Q (.int j) T') :
    Wp (kdG .urn 2 g [.ob i, .int n] T) Q := by
  obtain ⟨o, ht, u⟩ := a
  exact takeA hg ht u hn hn2 fun j o' h1 h2 u' => q j _ h1 h2 (.set (lt_at ht) u') (List.length_set ..)
theorem ofE {tk g : List U → M U} (hg : tk = gDef 4 tkA) (hf : g = gDef 2 (ofA tk)) {T : Sto} {i k : Nat} {xs : List U} {Q : U → Sto → Prop} (a : ∃ o, T[i]? = some o ∧ Urn o) (hx : T[k]? = some (.lst xs)) (hik : i ≠ k) (h0 : xs ≠ []) (hl : xs.length ≤ 16777216) (q : ∀ x T', x ∈ xs → Ext i T T' → T'.length = T.length → Q x T') :
    Wp (kdG .len 2 g [.ob i, .ob k] T) Q := by
  obtain ⟨o, ht, u⟩ := a
  exact ofA_ok hg hf ht u hx hik h0 hl fun x o' hx u' => q x _ hx (.set (lt_at ht) u') (List.length_set ..)
/-! one instruction -/
def itA (tk of_ : List U → M U) : FxS :=
  fSeq (fSet 4 (fCall (kdG .len 2 of_) (fCons (fVar 0) (fCons (fVar 3) (fNil))))) (fSeq (fPar2 5 6 (fCons (fCall (kdG .urn 2 tk) (fCons (fVar 0) (fCons (fVar 2) (fNil)))) (fCons (fCall (kdG .len 2 of_) (fCons (fVar 0) (fCons (fLst (fCons (fC (.int 0)) (fCons (fBin gMod (fC (.int 1)) (fVar 1)) (fCons (fBin gSub (fVar 1) (fC (.int 1))) (fCons (fCall (kdG .urn 2 tk) (fCons (fVar 0) (fCons (fVar 1) (fNil)))) (fNil)))))) (fNil)))) (fNil)))) (fSeq (fIf (fBl (fBin (gIn false) (fVar 4) (fTup (fCons (fC (.str "set")) (fCons (fC (.str "scale")) (fNil)))))) (fRet (fTup (fCons (fVar 4) (fCons (fVar 5) (fCons (fVar 6) (fNil)))))) (fSkip)) (fSeq (fIf (fBl (fBin (gIn false) (fVar 4) (fTup (fCons (fC (.str "read")) (fCons (fC (.str "write")) (fNil)))))) (fRet (fTup (fCons (fVar 4) (fCons (fVar 5) (fNil))))) (fSkip)) (fSeq (fIf (fBl (fBin (gEq false) (fVar 2) (fC (.int 1)))) (fRet (fTup (fCons (fC (.str "set")) (fCons (fC (.int 0)) (fCons (fVar 6) (fNil)))))) (fSkip)) (fSeq (fSet 7 (fBin gMod (fBin gAdd (fBin gAdd (fVar 5) (fC (.int 1))) (fCall (kdG .urn 2 tk) (fCons (fVar 0) (fCons (fBin gSub (fVar 2) (fC (.int 1))) (fNil))))) (fVar 2))) (fSeq (fIf (fBl (fBin (gEq false) (fVar 4) (fC (.str "add")))) (fRet (fTup (fCons (fVar 4) (fCons (fVar 5) (fCons (fVar 7) (fCons (fIfE (fBl (fBin gGt (fVar 1) (fC (.int 2)))) (fBin gAdd (fC (.int 1)) (fBin gMod (fVar 6) (fBin gSub (fVar 1) (fC (.int 1))))) (fC (.int 1))) (fNil))))))) (fSkip)) (fRet (fTup (fCons (fVar 4) (fCons (fVar 5) (fCons (fVar 7) (fNil))))))))))))
def OpOk (p n : Int) (ws : List Str) (x : U) : Prop :=
  (∃ w a c, x = .tup [.str w, .int a, .int c] ∧ (w = "set" ∨ w = "scale") ∧ 0 ≤ a ∧ a < n ∧ 0 ≤ c ∧ c < p ∧ (w ∈ ws ∨ (w = "set" ∧ n = 1))) ∨
  (∃ w a, x = .tup [.str w, .int a] ∧ (w = "read" ∨ w = "write") ∧ 0 ≤ a ∧ a < n ∧ w ∈ ws) ∨
  (∃ a b c, x = .tup [.str "add", .int a, .int b, .int c] ∧ 0 ≤ a ∧ a < n ∧ 0 ≤ b ∧ b < n ∧ a ≠ b ∧ 1 ≤ c ∧ c < p ∧ Str.ofString "add" ∈ ws) ∨
  (∃ w a b, x = .tup [.str w, .int a, .int b] ∧ (w = "copy" ∨ w = "swap") ∧ 0 ≤ a ∧ a < n ∧ 0 ≤ b ∧ b < n ∧ a ≠ b ∧ w ∈ ws)
def words7 : List Str := ["set", "scale", "read", "write", "add", "copy", "swap"]
theorem words7_ok : ∀ w ∈ words7, PyData.strOk w = true := by decide +kernel
local macro_rules | `(tactic| rfl') => `(tactic| repeat (first | with_reducible refine Lf.kS_nx ?_ | with_reducible refine Lf.kS_rt ?_ | with_reducible refine Lf.kS_bk ?_ | with_reducible refine Lf.kS_ct ?_ | with_reducible refine Lf.kD_rt ?_ | with_reducible refine Lf.kD_nx ?_ | with_reducible refine Lf.kF_nx ?_ | with_reducible refine Lf.kF_ct ?_ | with_reducible refine Lf.kF_bk ?_ | with_reducible refine Lf.kF_rt ?_ | with_reducible refine Lf.v_ifT ?_ | with_reducible refine Lf.v_ifF ?_ | with_reducible refine Lf.v_ifNT ?_ | with_reducible refine Lf.v_ifNF ?_ | with_reducible refine Lf.kP_int ?_ | with_reducible refine Lf.kP_bl ?_ | with_reducible refine Lf.kP_str ?_ | with_reducible refine Lf.kP_non ?_ | with_reducible refine Lf.v_iadd ?_ | with_reducible refine Lf.Wp.ok ?_ | with_reducible refine Lf.seq_wp ?_ | with_reducible refine Lf.v_bin ?_ | with_reducible refine Lf.v_cons ?_ | with_reducible refine Lf.v_call ?_ | with_reducible refine Lf.v_ret ?_ | with_reducible refine Lf.v_set ?_ | with_reducible refine Lf.v_asg ?_ | with_reducible refine Lf.v_if ?_ | with_reducible refine Lf.v_ifE ?_ | with_reducible refine Lf.v_bl ?_ | with_reducible refine Lf.v_tru ?_ | with_reducible refine Lf.v_and ?_ | with_reducible refine Lf.v_or ?_ | with_reducible refine Lf.v_not ?_ | with_reducible refine Lf.v_andV ?_ | with_reducible refine Lf.v_orV ?_ | with_reducible refine Lf.v_notV ?_ | with_reducible refine Lf.v_c ?_ | with_reducible refine Lf.v_nil ?_ | with_reducible refine Lf.v_skip ?_ | with_reducible refine Lf.v_drop ?_ | with_reducible refine Lf.v_retN ?_ | with_reducible refine Lf.v_brk ?_ | with_reducible refine Lf.v_cnt ?_ | with_reducible refine Lf.v_nm ?_ | with_reducible refine Lf.v_gnil ?_ | with_reducible refine Lf.v_gcons ?_ | with_reducible refine Lf.v_yes ?_ | with_reducible refine Lf.v_for ?_ | with_reducible refine Lf.v_lc ?_ | with_reducible refine Lf.v_rg ?_ | with_reducible refine Lf.v_iter ?_ | with_reducible refine Lf.v_iterT ?_ | with_reducible refine Lf.v_add ?_ | with_reducible refine Lf.v_sub ?_ | with_reducible refine Lf.v_neg ?_ | with_reducible refine Lf.v_lt ?_ | with_reducible refine Lf.v_le ?_ | with_reducible refine Lf.v_gt ?_ | with_reducible refine Lf.v_ge ?_ | with_reducible refine Lf.v_eqI ?_ | with_reducible refine Lf.v_neI ?_ | with_reducible refine Lf.v_abs ?_ | with_reducible refine Lf.v_intI ?_ | with_reducible refine Lf.v_intB ?_ | with_reducible refine Lf.v_max2 ?_ | with_reducible refine Lf.v_min2 ?_ | with_reducible refine Lf.v_lenT ?_ | with_reducible refine Lf.v_lenN ?_ | with_reducible refine Lf.v_nw ?_ | with_reducible refine Lf.v_un ?_ | with_reducible refine Lf.v_tup ?_ | with_reducible refine Lf.v_lst ?_ | with_reducible refine Lf.v_par2 ?_ | with_reducible refine Lf.v_par3 ?_ | with_reducible refine Lf.v_chain ?_ | with_reducible refine Lf.v_meth ?_ | with_reducible refine Lf.v_subT ?_ | with_reducible refine Lf.v_isiIB ?_ | with_reducible refine Lf.v_isiII ?_ | with_reducible refine Lf.v_sl ?_ | with_reducible refine Lf.v_noP ?_ | with_reducible refine Lf.v_pt ?_ | with_reducible refine Lf.v_cutT ?_ | ((with_reducible apply Lf.v_var); exact rfl) | ((with_reducible refine Lf.v_kw ?_ ?_); exact rfl) | ((with_reducible apply Lf.v_iterO); first | exact rfl | assumption) | ((with_reducible apply Lf.v_lenL); first | exact rfl | assumption) | ((with_reducible refine Lf.v_unp ?_ ?_); exact rfl) | ((with_reducible apply Lf.v_aug); exact rfl) | ((with_reducible refine Lf.v_mod ?_ ?_); first | decide | omega | assumption | fail) | ((with_reducible refine Lf.v_div ?_ ?_); first | exact ⟨by decide, by decide +kernel⟩ | assumption | exact Lf.log2d (by omega) ⟨by omega, by omega⟩ | fail) | ((with_reducible refine Lf.v_mul ?_ ?_); first | exact Lf.log2m ⟨by omega, by omega⟩ ⟨by omega, by omega⟩ | exact Lf.log2m (by assumption) ⟨by omega, by omega⟩ | exact Lf.log2m ⟨by omega, by omega⟩ (by assumption) | fail) | ((with_reducible refine Lf.v_pow ?_ ?_); exact ⟨by decide, by decide, by decide⟩) | ((with_reducible refine Lf.v_rg1 ?_ ?_); first | decide | fail) | ((with_reducible apply Lf.v_ixL); (first | exact rfl | assumption | fail); (first | exact rfl | assumption | fail)) | ((with_reducible apply Lf.v_ixT); (first | exact rfl | assumption | fail)) | ((with_reducible apply Lf.v_ixN); (first | exact rfl | assumption | fail)) | with_reducible refine ⟨_, rfl, ?_⟩ | (refine ⟨_, (rfl : Lf.tru _ (Lf.U.bl _) = some _), ?_⟩) | with_reducible refine ⟨_, _, rfl, ?_⟩ | with_reducible refine ⟨_, _, _, rfl, ?_⟩ | (refine ⟨(Nat.le_of_ble_eq_true rfl : List.length _ ≤ 16777216), ?_⟩) | with_reducible refine Lf.v_enum ?_ | fail))
theorem itA_ok {tk of_ g : List U → M U} (h1 : tk = gDef 4 tkA) (h2 : of_ = gDef 2 (ofA tk)) (h3 : g = gDef 8 (itA tk of_)) {T : Sto} {i k : Nat} {p n : Int} {ws : List Str} {Q : U → Sto → Prop} (a : ∃ o, T[i]? = some o ∧ Urn o)
    (hp : 2 ≤ p) (hp2 : p < 1000000) (hn : 1 ≤ n) (hn2 : n < 1000) (hw : T[k]? = some (.lst (ws.map .str))) (hik : k ≠ i) (hw0 : ws ≠ []) (hwl : ws.length < 1000) (hws : ∀ w ∈ ws, w ∈ words7) (q : ∀ x T', OpOk p n ws x → Ext i T T' → Q x T') :
    Wp (kdG .len 4 g [.ob i, .int p, .int n, .ob k] T) Q := by
  subst h3
  refine len_wp rfl (gDef_wp ?_)
  unfold itA
  rfl'
  refine ofE h1 h2 a hw (Ne.symm hik) (by simpa using hw0) (by rw [List.length_map]; omega) fun w T1 hwx e1 _ => ?_
  obtain ⟨w, hwm, rfl⟩ := List.mem_map.mp hwx
  clear hwx
  rfl'
  refine takeE h1 e1.urn (by omega) ⟨by omega, by omega⟩ fun x T2 x1 x2 e2 _ => ?_
  rfl'
  refine takeE h1 e2.urn (by omega) ⟨by omega, by omega⟩ fun y T3 y1 y2 e3 _ => ?_
  rfl'
  have l3 : T3[T3.length]? = none := List.getElem?_eq_none (Nat.le_refl _)
  obtain ⟨o3, ho3, u3⟩ := e3.urn
  have e4 : Ext i T3 (T3 ++ [O.lst [U.int 0, U.int (1 % p), U.int (p - 1), U.int y]]) := .add ho3 u3
  refine ofE (xs := [U.int 0, U.int (1 % p), U.int (p - 1), U.int y]) h1 h2 e4.urn (by simp) (Nat.ne_of_lt (lt_at ho3)) (List.cons_ne_nil _ _) (Nat.le_of_ble_eq_true rfl) fun c T4 hc e5 _ => ?_
  have hc : ∃ z, c = .int z ∧ 0 ≤ z ∧ z < p := by
    have hm := emod_bd (a := 1) (n := p) (by omega)
    simp only [List.mem_cons, List.not_mem_nil, or_false] at hc
    rcases hc with rfl | rfl | rfl | rfl
    · exact ⟨_, rfl, by omega, by omega⟩
    · exact ⟨_, rfl, hm.1, hm.2⟩
    · exact ⟨_, rfl, by omega, by omega⟩
    · exact ⟨_, rfl, y1, y2⟩
  obtain ⟨c, rfl, c1, c2⟩ := hc
  have e : Ext i T T4 := e1.trans (e2.trans (e3.trans (e4.trans e5)))
  have hw7 := hws w hwm
  rfl'
  refine v_in2 ?_
  by_cases hs : w = "set" ∨ w = "scale"
  · rfl'
    refine v_yesb (by rcases hs with rfl | rfl <;> decide) ?_
    rfl'
    exact q _ _ (.inl ⟨w, x, c, rfl, hs, x1, x2, c1, c2, .inl hwm⟩) e
  · rfl'
    refine v_nob (by simp only [words7, List.mem_cons, List.not_mem_nil, or_false] at hw7; rcases hw7 with rfl | rfl | rfl | rfl | rfl | rfl | rfl <;> first | decide | (exact absurd (.inl rfl) hs) | (exact absurd (.inr rfl) hs)) ?_
    rfl'
    refine v_in2 ?_
    by_cases hr : w = "read" ∨ w = "write"
    · rfl'
      refine v_yesb (by rcases hr with rfl | rfl <;> decide) ?_
      rfl'
      exact q _ _ (.inr (.inl ⟨w, x, rfl, hr, x1, x2, hwm⟩)) e
    · rfl'
      refine v_nob (by simp only [words7, List.mem_cons, List.not_mem_nil, or_false] at hw7; rcases hw7 with rfl | rfl | rfl | rfl | rfl | rfl | rfl <;> first | decide | (exact absurd (.inl rfl) hs) | (exact absurd (.inr rfl) hs) | (exact absurd (.inl rfl) hr) | (exact absurd (.inr rfl) hr)) ?_
      rfl'
      refine v_ifd (fun hn1 => ?_) (fun hn1 => ?_)
      · rfl'
        exact q _ _ (.inl ⟨_, 0, c, rfl, .inl rfl, by omega, by omega, c1, c2, .inr ⟨rfl, hn1⟩⟩) e
      · rfl'
        refine takeE h1 e.urn (by omega) ⟨by omega, by omega⟩ fun z T5 z1 z2 e6 _ => ?_
        have m := emod_bd (a := x + 1 + z) (n := n) (by omega)
        have mne : x ≠ (x + 1 + z) % n := by
          intro h
          by_cases hb : x + 1 + z < n
          · rw [Int.emod_eq_of_lt (by omega) hb] at h
            omega
          · have h7 := Int.emod_eq_of_lt (a := x + 1 + z - n) (b := n) (by omega) (by omega)
            rw [Int.sub_emod_right] at h7
            omega
        rfl'
        refine v_eqS (words7_ok w hw7) (by decide +kernel) ?_
        by_cases ha : w = "add"
        · subst ha
          rfl'
          refine v_yesb (by decide) ?_
          rfl'
          refine v_ifd (fun hp3 => ?_) (fun hp3 => ?_)
          · rfl'
            have m2 := emod_bd (a := c) (n := p - 1) (by omega)
            exact q _ _ (.inr (.inr (.inl ⟨_, _, _, rfl, x1, x2, m.1, m.2, mne, by omega, by omega, hwm⟩))) (e.trans e6)
          · rfl'
            exact q _ _ (.inr (.inr (.inl ⟨_, _, _, rfl, x1, x2, m.1, m.2, mne, by omega, by omega, hwm⟩))) (e.trans e6)
        · rfl'
          refine v_nod ha ?_
          rfl'
          have hcs : w = "copy" ∨ w = "swap" := by
            simp only [words7, List.mem_cons, List.not_mem_nil, or_false] at hw7
            rcases hw7 with h | h | h | h | h | h | h
            · exact absurd (.inl h) hs
            · exact absurd (.inr h) hs
            · exact absurd (.inl h) hr
            · exact absurd (.inr h) hr
            · exact absurd h ha
            · exact .inl h
            · exact .inr h
          exact q _ _ (.inr (.inr (.inr ⟨w, _, _, rfl, hcs, x1, x2, m.1, m.2, mne, hwm⟩))) (e.trans e6)
/-! a body -/
def bdA (tk of_ it self : List U → M U) : FxS :=
  fSeq (fSet 7 (fLst (fNil))) (fSeq (fFor (fRg gRg1 (fCons (fCall (kdG .urn 2 tk) (fCons (fVar 0) (fCons (fBin gAdd (fVar 4) (fC (.int 1))) (fNil)))) (fNil))) (gNm 8) (fIf (fAnd (fBl (fBin gGt (fVar 5) (fC (.int 0)))) (fBl (fBin (gEq false) (fCall (kdG .urn 2 tk) (fCons (fVar 0) (fCons (fC (.int 4)) (fNil)))) (fC (.int 0))))) (fSeq (fSet 9 (fCall (kdG .len 7 self) (fCons (fVar 0) (fCons (fVar 1) (fCons (fVar 2) (fCons (fVar 3) (fCons (fBin gDiv (fVar 4) (fC (.int 2))) (fCons (fBin gSub (fVar 5) (fC (.int 1))) (fCons (fVar 6) (fNil)))))))))) (fDrop (fMeth isL gAppend (fVar 7) (fCons (fTup (fCons (fC (.str "loop")) (fCons (fCall (kdG .len 2 of_) (fCons (fVar 0) (fCons (fVar 6) (fNil)))) (fCons (fVar 9) (fNil))))) (fNil))))) (fDrop (fMeth isL gAppend (fVar 7) (fCons (fCall (kdG .len 4 it) (fCons (fVar 0) (fCons (fVar 1) (fCons (fVar 2) (fCons (fVar 3) (fNil)))))) (fNil)))))) (fRet (fCall gTuple (fCons (fVar 7) (fNil)))))
def lpU (k : Int) (b : List U) : U := .tup [.str "loop", .int k, .tup b]
/-- the programs of at most l items a level (half as many below), d levels of loops -/
def Pr (A : U → Prop) (R : Int → Prop) : Nat → Int → List U → Prop
  | 0, l, xs => (xs.length : Int) ≤ l ∧ ∀ x ∈ xs, A x
  | d + 1, l, xs => (xs.length : Int) ≤ l ∧ ∀ x ∈ xs, A x ∨ ∃ k b, x = lpU k b ∧ R k ∧ Pr A R d (l / 2) b
theorem Pr.len {A : U → Prop} {R : Int → Prop} : ∀ {d : Nat} {l : Int} {xs : List U}, Pr A R d l xs → (xs.length : Int) ≤ l
  | 0, _, _, h => h.1
  | _ + 1, _, _, h => h.1
theorem Ext.app {i : Nat} {T T1 : Sto} {f : List U} (e : Ext i T T1) (hi : i < T.length) (xs : List U) : Ext i T (T1.set T.length (.lst xs)) := by
  obtain ⟨o, h, u⟩ := e.urn
  exact ⟨⟨o, by rw [List.getElem?_set_ne (Nat.ne_of_gt hi)]; exact h, u⟩, fun j h1 h2 => by rw [List.getElem?_set_ne (Nat.ne_of_gt h2)]; exact e.kp j h1 h2, by rw [List.length_set]; exact e.le⟩
theorem bdA_step {tk of_ it self : List U → M U} (h1 : tk = gDef 4 tkA) (h2 : of_ = gDef 2 (ofA tk)) (h3 : it = gDef 8 (itA tk of_))
    {p n : Int} {ws : List Str} {rs : List Int} (hp : 2 ≤ p) (hp2 : p < 1000000) (hn : 1 ≤ n) (hn2 : n < 1000) (hw0 : ws ≠ []) (hwl : ws.length < 1000) (hws : ∀ w ∈ ws, w ∈ words7) (hr0 : rs ≠ []) (hrl : rs.length < 1000)
    {P : U → Prop} {d : Nat} {l : Int} (hl : 0 ≤ l) (hl2 : l < 1000) (hA : ∀ x, OpOk p n ws x → P x)
    (hL : 0 < d → ∀ (T : Sto) (i k j : Nat) (Q : U → Sto → Prop), (∃ o, T[i]? = some o ∧ Urn o) → T[k]? = some (.lst (ws.map .str)) → T[j]? = some (.lst (rs.map .int)) → k ≠ i → j ≠ i →
      (∀ xs T', (∀ c ∈ rs, P (lpU c xs)) → Ext i T T' → Q (.tup xs) T') → Wp (kdG .len 7 self [.ob i, .int p, .int n, .ob k, .int (l / 2), .int ((d : Int) - 1), .ob j] T) Q)
    {T : Sto} {i k j : Nat} {Q : U → Sto → Prop} (a : ∃ o, T[i]? = some o ∧ Urn o) (hk : T[k]? = some (.lst (ws.map .str))) (hj : T[j]? = some (.lst (rs.map .int))) (hki : k ≠ i) (hji : j ≠ i)
    (q : ∀ xs T', (xs.length : Int) ≤ l → (∀ x ∈ xs, P x) → Ext i T T' → Q (.tup xs) T') :
    Wp (kdG .len 7 (gDef 10 (bdA tk of_ it self)) [.ob i, .int p, .int n, .ob k, .int l, .int d, .ob j] T) Q := by
  refine len_wp rfl (gDef_wp ?_)
  unfold bdA
  obtain ⟨o, ho, u⟩ := a
  have hiT := lt_at ho
  have hkT := lt_at hk
  have hjT := lt_at hj
  rfl'
  refine takeE h1 (Ext.add ho u).urn (by omega) ⟨by omega, by omega⟩ fun c T1 c1 c2 e1 l1 => ?_
  have e1 : Ext i T T1 := (Ext.add ho u).trans e1
  have hf1 : T1[T.length]? = some (.lst []) := by
    have : (T ++ [O.lst []])[T.length]? = some (.lst []) := by simp
    exact (by assumption : Ext i (T ++ [O.lst []]) T1).at_ this (Nat.ne_of_gt hiT)
  rfl'
  refine v_rg1 (small62_of (by omega) (by omega)) ?_
  refine wp_forC (fun r η T' => ∃ found w8 w9, η = [some (.ob i), some (.int p), some (.int n), some (.ob k), some (.int l), some (.int d), some (.ob j), some (.ob T.length), w8, w9] ∧ Ext i T T' ∧ T'[T.length]? = some (.lst found) ∧ (found.length : Int) + r.length ≤ l ∧ ∀ x ∈ found, P x)
    ⟨[], _, _, rfl, e1, hf1, by rw [rgU_len]; simp; omega, fun _ h => (nomatch h)⟩ (fun x r η T' ⟨found, w8, w9, e, eT, hf, hlen, hP⟩ => ?_) (fun η T' ⟨found, w8, w9, e, eT, hf, hlen, hP⟩ => ?_)
  · subst e
    rw [List.length_cons] at hlen
    have one : ∀ (T2 : Sto) (y : U), Ext i T T2 → T2[T.length]? = some (.lst found) →
        Wp (gAppend (.ob T.length) [y] T2) fun _ T3 => Ext i T T3 ∧ T3[T.length]? = some (.lst (found ++ [y])) := fun T2 y eT2 hf2 => by
      refine v_app hf2 ⟨by omega, eT2.app (f := []) hiT _, ?_⟩
      rw [List.getElem?_set_self (lt_at hf2)]
    have hl3 : ∀ y : U, ((found ++ [y]).length : Int) + r.length ≤ l := fun y => by rw [List.length_append, List.length_singleton]; omega
    have hP3 : ∀ y : U, P y → ∀ x ∈ found ++ [y], P x := fun y hy z hz => by
      rcases List.mem_append.mp hz with hz | hz
      · exact hP z hz
      · rw [List.mem_singleton.mp hz]; exact hy
    have isl : ∀ T2 : Sto, T2[T.length]? = some (.lst found) → isL T2 (.ob T.length) = true := fun T2 h => by unfold isL; simp only [h]
    have item : ∀ (T2 : Sto) (w8 w9 : Option U), Ext i T T2 → T2[T.length]? = some (.lst found) → Wp (fDrop (fMeth isL gAppend (fVar 7) (fCons (fCall (kdG .len 4 it) (fCons (fVar 0) (fCons (fVar 1) (fCons (fVar 2) (fCons (fVar 3) (fNil)))))) (fNil)))
        [some (.ob i), some (.int p), some (.int n), some (.ob k), some (.int l), some (.int d), some (.ob j), some (.ob T.length), w8, w9] T2) (kF (fun η T' => ∃ found w8 w9, η = [some (.ob i), some (.int p), some (.int n), some (.ob k), some (.int l), some (.int d), some (.ob j), some (.ob T.length), w8, w9] ∧ Ext i T T' ∧ T'[T.length]? = some (.lst found) ∧ (found.length : Int) + r.length ≤ l ∧ ∀ x ∈ found, P x) (fun p T1 => kS (fun η T => Wp (fRet (fCall gTuple (fCons (fVar 7) fNil)) η T) (kD Q)) (kD Q) p T1)) := fun T2 w8 w9 eT2 hf2 => by
      rfl'
      refine ⟨isl _ hf2, ?_⟩
      rfl'
      refine itA_ok h1 h2 h3 eT2.urn hp hp2 hn hn2 (eT2.at_ hk hki) hki hw0 hwl hws fun y T3 hy e3 => ?_
      rfl'
      refine .mono (one T3 y (eT2.trans e3) (e3.at_ hf2 (Nat.ne_of_gt hiT))) fun _ T4 h => ?_
      exact ⟨_, _, _, rfl, h.1, h.2, hl3 y, hP3 y (hA y hy)⟩
    rfl'
    refine v_ifd (fun hd => ?_) (fun hd => ?_)
    · rfl'
      refine takeE h1 eT.urn (by decide) ⟨by decide, by decide⟩ fun z T2 z1 z2 e2 _ => ?_
      have hf2 := e2.at_ hf (Nat.ne_of_gt hiT)
      have eT2 := eT.trans e2
      rfl'
      refine v_ifd (fun hz => ?_) (fun hz => ?_)
      · rfl'
        refine hL (by omega) T2 i k j _ eT2.urn (eT2.at_ hk hki) (eT2.at_ hj hji) hki hji fun xs T3 hxs e3 => ?_
        have eT3 := eT2.trans e3
        have hf3 := e3.at_ hf2 (Nat.ne_of_gt hiT)
        rfl'
        refine ⟨isl _ hf3, ?_⟩
        rfl'
        refine ofE h1 h2 eT3.urn (eT3.at_ hj hji) (Ne.symm hji) (by simpa using hr0) (by rw [List.length_map]; omega) fun c T4 hc e4 _ => ?_
        obtain ⟨c, hc', rfl⟩ := List.mem_map.mp hc
        rfl'
        refine .mono (one T4 (lpU c xs) (eT3.trans e4) (e4.at_ hf3 (Nat.ne_of_gt hiT))) fun _ T4 h => ?_
        exact ⟨_, _, _, rfl, h.1, h.2, hl3 _, hP3 _ (hxs c hc')⟩
      · exact item T2 _ _ eT2 hf2
    · exact v_ifF (item T' _ _ eT hf)
  · subst e
    rfl'
    refine v_tuple (xs := found) (by unfold seqU; simp only [hf]) ?_
    rfl'
    exact q found T' (by simpa using hlen) hP eT
theorem bdA_ok {tk of_ it : List U → M U} {g : Nat → List U → M U} (h1 : tk = gDef 4 tkA) (h2 : of_ = gDef 2 (ofA tk)) (h3 : it = gDef 8 (itA tk of_)) (h4 : ∀ m, g (m + 1) = gDef 10 (bdA tk of_ it (g m)))
    {p n : Int} {ws : List Str} {rs : List Int} (hp : 2 ≤ p) (hp2 : p < 1000000) (hn : 1 ≤ n) (hn2 : n < 1000) (hw0 : ws ≠ []) (hwl : ws.length < 1000) (hws : ∀ w ∈ ws, w ∈ words7) (hr0 : rs ≠ []) (hrl : rs.length < 1000) :
    ∀ (d : Nat) (m : Nat) (l : Int) (T : Sto) (i k j : Nat) (Q : U → Sto → Prop), d < m → 0 ≤ l → l < 1000 → (∃ o, T[i]? = some o ∧ Urn o) → T[k]? = some (.lst (ws.map .str)) → T[j]? = some (.lst (rs.map .int)) → k ≠ i → j ≠ i →
    (∀ xs T', Pr (OpOk p n ws) (· ∈ rs) d l xs → Ext i T T' → Q (.tup xs) T') →
    Wp (kdG .len 7 (g m) [.ob i, .int p, .int n, .ob k, .int l, .int d, .ob j] T) Q := by
  intro d
  induction d with
  | zero =>
    intro m l T i k j Q hm hl hl2 a hk hj hki hji q
    obtain ⟨m, rfl⟩ : ∃ m', m = m' + 1 := ⟨m - 1, by omega⟩
    rw [h4]
    exact bdA_step h1 h2 h3 hp hp2 hn hn2 hw0 hwl hws hr0 hrl (P := OpOk p n ws) hl hl2 (fun _ h => h) (fun h => absurd h (Nat.lt_irrefl _)) a hk hj hki hji fun xs T' hx hP e => q xs T' ⟨hx, hP⟩ e
  | succ d ih =>
    intro m l T i k j Q hm hl hl2 a hk hj hki hji q
    obtain ⟨m, rfl⟩ : ∃ m', m = m' + 1 := ⟨m - 1, by omega⟩
    rw [h4]
    refine bdA_step h1 h2 h3 hp hp2 hn hn2 hw0 hwl hws hr0 hrl (P := fun x => OpOk p n ws x ∨ ∃ k b, x = lpU k b ∧ k ∈ rs ∧ Pr (OpOk p n ws) (· ∈ rs) d (l / 2) b) hl hl2 (fun _ h => .inl h) (fun _ T i k j Q a hk hj hki hji q => ?_) a hk hj hki hji fun xs T' hx hP e => q xs T' ⟨hx, hP⟩ e
    have : ((d + 1 : Nat) : Int) - 1 = d := by omega
    rw [this]
    exact ih m (l / 2) T i k j Q (by omega) (by omega) (by omega) a hk hj hki hji fun xs T' hx e => q xs T' (fun c hc => .inr ⟨c, xs, rfl, hc, hx⟩) e
end Lf


set_option Elab.async false
set_option linter.all false
set_option maxRecDepth 100000
set_option maxHeartbeats 4000000
/-! ## what a program of the first laws counts -/
namespace Lf
open PySem PySem.Spec L2
def lpOf : U → Option (Int × List U)
  | .tup [.str w, .int k, .tup b] => if w = "loop" then some (k, b) else none
  | _ => none
theorem lpOf_lpU (k : Int) (b : List U) : lpOf (lpU k b) = some (k, b) := rfl
/-- the word of an instruction -/
def wdOf : U → Option Str
  | .tup (.str w :: _) => some w
  | _ => none
/-- an instruction that is no loop -/
def Op (x : U) : Prop := ∃ (w : Str) (is : List Int), x = .tup (.str w :: is.map .int) ∧ w ∈ words7 ∧ is.length ≤ 3 ∧ ∀ i ∈ is, 0 ≤ i ∧ i < 1000000
theorem Op.no {x : U} (h : Op x) : lpOf x = none := by
  obtain ⟨w, is, rfl, _⟩ := h
  match is with
  | [] => rfl
  | [_] => rfl
  | [_, _] => rfl
  | _ :: _ :: _ :: _ => rfl
theorem OpOk.op {p n : Int} {ws : List Str} {x : U} (hp : p < 1000000) (hn : n < 1000) (h : OpOk p n ws x) : Op x := by
  rcases h with ⟨w, a, c, rfl, h, _⟩ | ⟨w, a, rfl, h, _⟩ | ⟨a, b, c, rfl, h⟩ | ⟨w, a, b, rfl, h, _⟩
  · exact ⟨w, [a, c], rfl, by rcases h with rfl | rfl <;> decide, by simp, by simp; omega⟩
  · exact ⟨w, [a], rfl, by rcases h with rfl | rfl <;> decide, by simp, by simp; omega⟩
  · exact ⟨_, [a, b, c], rfl, by decide, by simp, by simp; omega⟩
  · exact ⟨w, [a, b], rfl, by rcases h with rfl | rfl <;> decide, by simp, by simp; omega⟩
/-- programs of at most L items a level, d levels of loops -/
def Pn (A : U → Prop) (R : Int → Prop) (L : Nat) : Nat → List U → Prop
  | 0, xs => xs.length ≤ L ∧ ∀ x ∈ xs, A x
  | d + 1, xs => xs.length ≤ L ∧ ∀ x ∈ xs, A x ∨ ∃ k b, x = lpU k b ∧ R k ∧ Pn A R L d b
theorem Pn.of {A A' : U → Prop} {R R' : Int → Prop} {L : Nat} (hA : ∀ x, A x → A' x) (hR : ∀ k, R k → R' k) : ∀ {d : Nat} {l : Int} {xs : List U}, Pr A R d l xs → l ≤ L → 0 ≤ l → Pn A' R' L d xs
  | 0, l, xs, h, hl, _ => ⟨by have := h.1; omega, fun x hx => hA x (h.2 x hx)⟩
  | d + 1, l, xs, h, hl, h0 => ⟨by have := h.1; omega, fun x hx => by
      rcases h.2 x hx with h | ⟨k, b, e, hr, hb⟩
      · exact .inl (hA x h)
      · exact .inr ⟨k, b, e, hR k hr, Pn.of hA hR hb (by omega) (by omega)⟩⟩
theorem Pn.len {A : U → Prop} {R : Int → Prop} {L : Nat} : ∀ {d : Nat} {xs : List U}, Pn A R L d xs → xs.length ≤ L
  | 0, _, h => h.1
  | _ + 1, _, h => h.1
theorem Pn.up {A : U → Prop} {R : Int → Prop} {L : Nat} : ∀ {d : Nat} {xs : List U}, Pn A R L d xs → Pn A R L (d + 1) xs
  | 0, _, h => ⟨h.1, fun x hx => .inl (h.2 x hx)⟩
  | d + 1, _, h => ⟨h.1, fun x hx => by
      rcases h.2 x hx with h | ⟨k, b, e, hr, hb⟩
      · exact .inl h
      · exact .inr ⟨k, b, e, hr, hb.up⟩⟩
theorem Pn.sub {A : U → Prop} {R : Int → Prop} {L : Nat} : ∀ {d : Nat} {xs ys : List U}, Pn A R L d xs → (∀ y ∈ ys, y ∈ xs) → ys.length ≤ L → Pn A R L d ys
  | 0, _, _, h, hs, hl => ⟨hl, fun x hx => h.2 x (hs x hx)⟩
  | _ + 1, _, _, h, hs, hl => ⟨hl, fun x hx => h.2 x (hs x hx)⟩
/-- what an item counts, what a program counts, by the weight f of an instruction -/
def cnt (f : U → Int) : Nat → List U → Int
  | 0, xs => (xs.map f).sum
  | d + 1, xs => (xs.map fun x => match lpOf x with
    | some (k, b) => k * cnt f d b
    | none => f x).sum
def cn1 (f : U → Int) : Nat → U → Int
  | 0, x => f x
  | d + 1, x => match lpOf x with
    | some (k, b) => k * cnt f d b
    | none => f x
theorem cnt_eq (f : U → Int) (d : Nat) (xs : List U) : cnt f d xs = (xs.map (cn1 f d)).sum := by
  cases d <;> rfl
theorem cnt_nil (f : U → Int) (d : Nat) : cnt f d [] = 0 := by rw [cnt_eq]; rfl
theorem cnt_cons (f : U → Int) (d : Nat) (x : U) (xs : List U) : cnt f d (x :: xs) = cn1 f d x + cnt f d xs := by rw [cnt_eq, cnt_eq, List.map_cons, List.sum_cons]
theorem cnt_app (f : U → Int) (d : Nat) (xs ys : List U) : cnt f d (xs ++ ys) = cnt f d xs + cnt f d ys := by
  induction xs with
  | nil => rw [cnt_nil]; simp
  | cons x xs ih => rw [List.cons_append, cnt_cons, cnt_cons, ih]; omega
theorem cnt_one (f : U → Int) (d : Nat) (x : U) : cnt f d [x] = cn1 f d x := by rw [cnt_cons, cnt_nil]; omega
theorem cn1_op {f : U → Int} {d : Nat} {x : U} (h : Op x) : cn1 f d x = f x := by
  cases d with
  | zero => rfl
  | succ d =>
    show (match lpOf x with
      | some (k, b) => k * cnt f d b
      | none => f x) = f x
    rw [h.no]
theorem cn1_lp {f : U → Int} {d : Nat} {k : Int} {b : List U} : cn1 f (d + 1) (lpU k b) = k * cnt f d b := rfl
/-- rounds of at most 10 ** 18 -/
def Rd (k : Int) : Prop := 0 ≤ k ∧ k ≤ 1000000000000000000
theorem sum_bd {f : U → Int} {M : Int} : ∀ xs : List U, (∀ x ∈ xs, 0 ≤ f x ∧ f x ≤ M) → 0 ≤ (xs.map f).sum ∧ (xs.map f).sum ≤ xs.length * M
  | [], _ => by simp
  | x :: xs, h => by
    have h1 := h x (List.mem_cons_self ..)
    have h2 := sum_bd xs fun y hy => h y (List.mem_cons_of_mem _ hy)
    rw [List.map_cons, List.sum_cons, List.length_cons]
    have : ((xs.length + 1 : Nat) : Int) * M = xs.length * M + M := by push_cast; rw [Int.add_mul]; omega
    omega
def Bd : Nat → Int
  | 0 => 1000
  | d + 1 => 1000000000000000000000 * Bd d
theorem Bd_pos : ∀ d, 1000 ≤ Bd d
  | 0 => by decide
  | d + 1 => by have := Bd_pos d; unfold Bd; omega
theorem cnt_bd {f : U → Int} {L : Nat} (hL : L ≤ 1000) (hf : ∀ x, 0 ≤ f x ∧ f x ≤ 1) : ∀ {d : Nat} {xs : List U}, Pn Op Rd L d xs → 0 ≤ cnt f d xs ∧ cnt f d xs ≤ Bd d
  | 0, xs, h => by
    have := sum_bd (M := 1) xs fun x _ => hf x
    have := h.1
    unfold cnt Bd
    omega
  | d + 1, xs, h => by
    rw [cnt_eq]
    have hB := Bd_pos d
    have := sum_bd (f := cn1 f (d + 1)) (M := 1000000000000000000 * Bd d) xs fun x hx => by
      rcases h.2 x hx with h | ⟨k, b, rfl, hr, hb⟩
      · rw [cn1_op h]
        have := hf x
        omega
      · rw [cn1_lp]
        have ih := cnt_bd hL hf hb
        refine ⟨Int.mul_nonneg hr.1 ih.1, ?_⟩
        exact Int.mul_le_mul hr.2 ih.2 ih.1 (by decide)
    have h1 : xs.length ≤ L := h.1
    refine ⟨this.1, Int.le_trans this.2 ?_⟩
    have : (xs.length : Int) * (1000000000000000000 * Bd d) ≤ 1000 * (1000000000000000000 * Bd d) := Int.mul_le_mul_of_nonneg_right (by omega) (by omega)
    show _ ≤ 1000000000000000000000 * Bd d
    omega
theorem Bd_sm : ∀ d, d ≤ 6 → 1000000000000000000 * Bd d < 1000000000000000000000000000000000000000000000000000000000000000000000000000000000000000000000000000000000000000000000000000000000000000000000000000000000000000000000000000000000 := by decide +kernel
/-! times -/
def tmA (self : List U → M U) : FxS :=
  fSeq (fSet 2 (fC (.int 0))) (fSeq (fFor (fIter (fVar 0)) (gNm 3) (fIf (fBl (fBin (gEq false) (fBin gIx (fVar 3) (fC (.int 0))) (fC (.str "loop")))) (fAug 2 gIAdd (fBin gMul (fBin gIx (fVar 3) (fC (.int 1))) (fCall (kdG .pur 2 self) (fCons (fBin gIx (fVar 3) (fC (.int 2))) (fCons (fVar 1) (fNil)))))) (fIf (fOr (fBl (fBin (gEq false) (fVar 1) (fTup (fNil)))) (fBl (fBin (gIn false) (fBin gIx (fVar 3) (fC (.int 0))) (fVar 1)))) (fAug 2 gIAdd (fC (.int 1))) (fSkip)))) (fRet (fVar 2)))
theorem nrs_ints : ∀ is : List Int, nrs (is.map .int) = true
  | [] => rfl
  | i :: is => by show (nr (.int i) && nrs (is.map .int)) = true; rw [nrs_ints is]; rfl
theorem nrs_strs : ∀ is : List Str, nrs (is.map .str) = true
  | [] => rfl
  | i :: is => by show (nr (.str i) && nrs (is.map .str)) = true; rw [nrs_strs is]; rfl
theorem nr_op {x : U} (h : Op x) : nr x = true := by
  obtain ⟨w, is, rfl, _⟩ := h
  have : nrs (is.map .int) = true := nrs_ints is
  show (nr (.str w) && nrs (is.map .int)) = true
  rw [this]; rfl
theorem nrs_of : ∀ {xs : List U}, (∀ x ∈ xs, nr x = true) → nrs xs = true
  | [], _ => rfl
  | x :: xs, h => by
    show (nr x && nrs xs) = true
    rw [h x (List.mem_cons_self ..), nrs_of fun y hy => h y (List.mem_cons_of_mem _ hy)]; rfl
theorem nrs_lp {k : Int} {b : List U} (h : nrs b = true) : nr (lpU k b) = true := by
  show (nr (.str "loop") && (nr (.int k) && (nrs b && true))) = true
  rw [h]; rfl
theorem Pn.nrs {R : Int → Prop} {L : Nat} : ∀ {d : Nat} {xs : List U}, Pn Op R L d xs → nrs xs = true
  | 0, _, h => nrs_of fun x hx => nr_op (h.2 x hx)
  | d + 1, _, h => nrs_of fun x hx => by
    rcases h.2 x hx with h | ⟨k, b, rfl, _, hb⟩
    · exact nr_op h
    · exact nrs_lp hb.nrs
/-- the weight by words: any word if there is none -/
def wt (ws : List Str) (x : U) : Int := match wdOf x with
  | some w => if ws = [] ∨ w ∈ ws then 1 else 0
  | none => 0
theorem wt_bd (ws : List Str) (x : U) : 0 ≤ wt ws x ∧ wt ws x ≤ 1 := by
  unfold wt
  split
  · split <;> omega
  · omega
theorem words7_ne : ∀ w ∈ words7, w ≠ "loop" := by decide +kernel
theorem sm_of {x : Int} {d : Nat} (hd : d ≤ 6) (h : -(1000000000000000000 * Bd d) ≤ x ∧ x ≤ 1000000000000000000 * Bd d) : Sm x := by
  have := Bd_sm d hd
  exact ⟨by omega, by omega⟩
theorem gEq_D {neg : Bool} {T : Sto} {u v : U} {d e : PyData} (h1 : dat T 66 u = some d) (h2 : dat T 66 v = some e) (h3 : SeqAt.shaped d = true) (h4 : SeqAt.shaped e = true) : gEq neg u v T = .ok (.bl (if neg then !PyData.eqv d e else PyData.eqv d e)) T := by
  unfold gEq
  split
  · cases h1; cases h2
    rw [eqv_str]
  · unfold gEqD
    simp only [h1, h2, h3, h4, and_self, if_true]
theorem v_eqD {T : Sto} {u v : U} {d e : PyData} {Q : U → Sto → Prop} (h1 : dat T 66 u = some d) (h2 : dat T 66 v = some e) (h3 : SeqAt.shaped d = true) (h4 : SeqAt.shaped e = true) (q : Q (.bl (PyData.eqv d e)) T) : Wp (gEq false u v T) Q := by
  rw [gEq_D h1 h2 h3 h4]; exact .ok q
theorem v_neD {T : Sto} {u v : U} {d e : PyData} {Q : U → Sto → Prop} (h1 : dat T 66 u = some d) (h2 : dat T 66 v = some e) (h3 : SeqAt.shaped d = true) (h4 : SeqAt.shaped e = true) (q : Q (.bl (!PyData.eqv d e)) T) : Wp (gEq true u v T) Q := by
  rw [gEq_D h1 h2 h3 h4]; exact .ok q
theorem v_in1 {x a : Str} {T : Sto} {Q : U → Sto → Prop} (q : Q (.bl (decide (x = a))) T) : Wp (gIn false (.str x) (.tup [.str a]) T) Q := by
  refine ⟨_, T, rfl, ?_⟩
  have : (if false = true then !inV (.str x) [.str a] else inV (.str x) [.str a]) = decide (x = a) := by
    show (eqV (.str a) (.str x) || false) = decide (x = a)
    rw [Bool.or_false]
    show (a == x) = decide (x = a)
    by_cases h : x = a
    · subst h; simp
    · rw [decide_eq_false h]; exact beq_false_of_ne (Ne.symm h)
  rw [this]
  exact q
theorem v_iadd {i j : Int} {T : Sto} {Q : U → Sto → Prop} (q : Q (.int (i + j)) T) : Wp (gIAdd (.int i) (.int j) T) Q := .ok q
/-- what a call without objects hands back -/
def kP (T : Sto) (Q : U → Sto → Prop) (u : U) (T' : Sto) : Prop := match u with
  | .ob k => ∃ o, T'[k]? = some o ∧ nrO o = true ∧ Q (.ob T.length) (T ++ [o])
  | u => nr u = true ∧ Q u T
section
variable {T T' : Sto} {Q : U → Sto → Prop}
theorem kP_int {i : Int} (q : Q (.int i) T) : kP T Q (.int i) T' := ⟨rfl, q⟩
theorem kP_bl {i : Bool} (q : Q (.bl i) T) : kP T Q (.bl i) T' := ⟨rfl, q⟩
theorem kP_str {i : Str} (q : Q (.str i) T) : kP T Q (.str i) T' := ⟨rfl, q⟩
theorem kP_non (q : Q .non T) : kP T Q .non T' := ⟨rfl, q⟩
theorem kP_tup {xs : List U} (h : nrs xs = true) (q : Q (.tup xs) T) : kP T Q (.tup xs) T' := ⟨h, q⟩
theorem kP_ob {k : Nat} {o : O} (h : T'[k]? = some o) (h2 : nrO o = true) (q : Q (.ob T.length) (T ++ [o])) : kP T Q (.ob k) T' := ⟨o, h, h2, q⟩
theorem purK {n : Nat} {g : List U → M U} {us : List U} (hn : us.length = n) (hr : nrs us = true) (h : Wp (g us []) (kP T Q)) : Wp (pureG n g us T) Q :=
  pur_wp hn hr (h.mono fun u T' h => by cases u <;> exact h)
end
theorem v_ix0 {x : U} {r : List U} {T : Sto} {Q : U → Sto → Prop} (q : Q x T) : Wp (gIx (.tup (x :: r)) (.int 0) T) Q := by
  refine v_ixT ?_ q
  unfold atI ixN
  rw [if_pos (by decide), if_pos (by rw [List.length_cons]; omega)]
  rfl
theorem Pn.item {A : U → Prop} {R : Int → Prop} {L : Nat} {d : Nat} {xs : List U} {x : U} (h : Pn A R L d xs) (hx : x ∈ xs) : A x ∨ ∃ d' k b, d = d' + 1 ∧ x = lpU k b ∧ R k ∧ Pn A R L d' b := by
  cases d with
  | zero => exact .inl (h.2 x hx)
  | succ d =>
    rcases h.2 x hx with h | ⟨k, b, h1, h2, h3⟩
    · exact .inl h
    · exact .inr ⟨d, k, b, rfl, h1, h2, h3⟩
theorem lp_str : PyData.strOk "loop" = true := by decide +kernel
theorem Bd_mono {a b : Nat} (h : a ≤ b) : Bd a ≤ Bd b := by
  induction h with
  | refl => exact Int.le_refl _
  | step _ ih =>
    rename_i m _
    have := Bd_pos m
    show Bd a ≤ 1000000000000000000000 * Bd m
    omega
local macro_rules | `(tactic| rfl') => `(tactic| repeat (first | with_reducible refine Lf.kS_nx ?_ | with_reducible refine Lf.kS_rt ?_ | with_reducible refine Lf.kS_bk ?_ | with_reducible refine Lf.kS_ct ?_ | with_reducible refine Lf.kD_rt ?_ | with_reducible refine Lf.kD_nx ?_ | with_reducible refine Lf.kF_nx ?_ | with_reducible refine Lf.kF_ct ?_ | with_reducible refine Lf.kF_bk ?_ | with_reducible refine Lf.kF_rt ?_ | with_reducible refine Lf.v_ifT ?_ | with_reducible refine Lf.v_ifF ?_ | with_reducible refine Lf.v_ifNT ?_ | with_reducible refine Lf.v_ifNF ?_ | with_reducible refine Lf.kP_int ?_ | with_reducible refine Lf.kP_bl ?_ | with_reducible refine Lf.kP_str ?_ | with_reducible refine Lf.kP_non ?_ | with_reducible refine Lf.v_iadd ?_ | with_reducible refine Lf.Wp.ok ?_ | with_reducible refine Lf.seq_wp ?_ | with_reducible refine Lf.v_bin ?_ | with_reducible refine Lf.v_cons ?_ | with_reducible refine Lf.v_call ?_ | with_reducible refine Lf.v_ret ?_ | with_reducible refine Lf.v_set ?_ | with_reducible refine Lf.v_asg ?_ | with_reducible refine Lf.v_if ?_ | with_reducible refine Lf.v_ifE ?_ | with_reducible refine Lf.v_bl ?_ | with_reducible refine Lf.v_tru ?_ | with_reducible refine Lf.v_and ?_ | with_reducible refine Lf.v_or ?_ | with_reducible refine Lf.v_not ?_ | with_reducible refine Lf.v_andV ?_ | with_reducible refine Lf.v_orV ?_ | with_reducible refine Lf.v_notV ?_ | with_reducible refine Lf.v_c ?_ | with_reducible refine Lf.v_nil ?_ | with_reducible refine Lf.v_skip ?_ | with_reducible refine Lf.v_drop ?_ | with_reducible refine Lf.v_retN ?_ | with_reducible refine Lf.v_brk ?_ | with_reducible refine Lf.v_cnt ?_ | with_reducible refine Lf.v_nm ?_ | with_reducible refine Lf.v_gnil ?_ | with_reducible refine Lf.v_gcons ?_ | with_reducible refine Lf.v_yes ?_ | with_reducible refine Lf.v_for ?_ | with_reducible refine Lf.v_lc ?_ | with_reducible refine Lf.v_rg ?_ | with_reducible refine Lf.v_iter ?_ | with_reducible refine Lf.v_iterT ?_ | with_reducible refine Lf.v_add ?_ | with_reducible refine Lf.v_sub ?_ | with_reducible refine Lf.v_neg ?_ | with_reducible refine Lf.v_lt ?_ | with_reducible refine Lf.v_le ?_ | with_reducible refine Lf.v_gt ?_ | with_reducible refine Lf.v_ge ?_ | with_reducible refine Lf.v_eqI ?_ | with_reducible refine Lf.v_neI ?_ | with_reducible refine Lf.v_abs ?_ | with_reducible refine Lf.v_intI ?_ | with_reducible refine Lf.v_intB ?_ | with_reducible refine Lf.v_max2 ?_ | with_reducible refine Lf.v_min2 ?_ | with_reducible refine Lf.v_lenT ?_ | with_reducible refine Lf.v_lenN ?_ | with_reducible refine Lf.v_nw ?_ | with_reducible refine Lf.v_un ?_ | with_reducible refine Lf.v_tup ?_ | with_reducible refine Lf.v_lst ?_ | with_reducible refine Lf.v_par2 ?_ | with_reducible refine Lf.v_par3 ?_ | with_reducible refine Lf.v_chain ?_ | with_reducible refine Lf.v_meth ?_ | with_reducible refine Lf.v_subT ?_ | with_reducible refine Lf.v_isiIB ?_ | with_reducible refine Lf.v_isiII ?_ | with_reducible refine Lf.v_sl ?_ | with_reducible refine Lf.v_noP ?_ | with_reducible refine Lf.v_pt ?_ | with_reducible refine Lf.v_cutT ?_ | ((with_reducible apply Lf.v_var); exact rfl) | ((with_reducible refine Lf.v_kw ?_ ?_); exact rfl) | ((with_reducible apply Lf.v_iterO); first | exact rfl | assumption) | ((with_reducible apply Lf.v_lenL); first | exact rfl | assumption) | ((with_reducible refine Lf.v_unp ?_ ?_); exact rfl) | ((with_reducible apply Lf.v_aug); exact rfl) | ((with_reducible refine Lf.v_mod ?_ ?_); first | decide | omega | assumption | fail) | ((with_reducible refine Lf.v_div ?_ ?_); first | exact ⟨by decide, by decide +kernel⟩ | assumption | exact Lf.log2d (by omega) ⟨by omega, by omega⟩ | fail) | ((with_reducible refine Lf.v_mul ?_ ?_); first | exact Lf.log2m ⟨by omega, by omega⟩ ⟨by omega, by omega⟩ | exact Lf.log2m (by assumption) ⟨by omega, by omega⟩ | exact Lf.log2m ⟨by omega, by omega⟩ (by assumption) | fail) | ((with_reducible refine Lf.v_pow ?_ ?_); exact ⟨by decide, by decide, by decide⟩) | ((with_reducible refine Lf.v_rg1 ?_ ?_); first | decide | fail) | ((with_reducible apply Lf.v_ixL); (first | exact rfl | assumption | fail); (first | exact rfl | assumption | fail)) | ((with_reducible apply Lf.v_ixT); (first | exact rfl | assumption | fail)) | ((with_reducible apply Lf.v_ixN); (first | exact rfl | assumption | fail)) | with_reducible refine ⟨_, rfl, ?_⟩ | (refine ⟨_, (rfl : Lf.tru _ (Lf.U.bl _) = some _), ?_⟩) | with_reducible refine ⟨_, _, rfl, ?_⟩ | with_reducible refine ⟨_, _, _, rfl, ?_⟩ | (refine ⟨(Nat.le_of_ble_eq_true rfl : List.length _ ≤ 16777216), ?_⟩) | with_reducible refine Lf.v_enum ?_ | fail))
theorem tm_ok {g : Nat → List U → M U} (hg : ∀ m, g (m + 1) = gDef 4 (tmA (g m))) {ws : List Str} (hw1 : ws = [] ∨ ∃ w ∈ words7, ws = [w]) {L : Nat} (hL : L ≤ 1000) : ∀ (d m : Nat) (xs : List U), d < m → d ≤ 6 → Pn Op Rd L d xs →
    ∀ T (Q : U → Sto → Prop), Q (.int (cnt (wt ws) d xs)) T → Wp (kdG .pur 2 (g m) [.tup xs, .tup (ws.map .str)] T) Q := by
  intro d
  induction d using Nat.strongRecOn with
  | ind d ih =>
    intro m xs hm hd hx T Q q
    obtain ⟨m, rfl⟩ : ∃ m', m = m' + 1 := ⟨m - 1, by omega⟩
    have hn := nrs_strs ws
    rw [hg]
    refine purK rfl ?_ (gDef_wp ?_)
    · show (Lf.nrs xs && (Lf.nrs (ws.map .str) && true)) = true
      rw [hx.nrs, hn]; rfl
    unfold tmA
    rfl'
    refine wp_forC (fun r η T => T = [] ∧ ∃ done o, xs = done ++ r ∧ η = [some (.tup xs), some (.tup (ws.map .str)), some (.int (cnt (wt ws) d done)), o]) ⟨rfl, [], _, rfl, by rw [cnt_nil]; rfl⟩ (fun x r η T ⟨eT, done, o, ex, e⟩ => ?_) (fun η T ⟨eT, done, o, ex, e⟩ => ?_)
    · subst eT e
      have hxx : x ∈ xs := by rw [ex]; exact List.mem_append_right _ (List.mem_cons_self ..)
      have enx : xs = (done ++ [x]) ++ r := by rw [ex]; simp
      rcases hx.item hxx with ho | ⟨d', k, b, rfl, rfl, hk, hb⟩
      · have h1 := cn1_op (f := wt ws) (d := d) ho
        obtain ⟨w, is, rfl, hw, _, _⟩ := ho
        rfl'
        refine v_ix0 ?_
        rfl'
        refine v_eqS (words7_ok w hw) lp_str ?_
        rfl'
        refine v_nod (words7_ne w hw) ?_
        rfl'
        have add : wt ws (.tup (.str w :: is.map .int)) = 1 → cnt (wt ws) d (done ++ [.tup (.str w :: is.map .int)]) = cnt (wt ws) d done + 1 := fun h => by rw [cnt_app, cnt_one, h1, h]
        have add0 : wt ws (.tup (.str w :: is.map .int)) = 0 → cnt (wt ws) d (done ++ [.tup (.str w :: is.map .int)]) = cnt (wt ws) d done := fun h => by rw [cnt_app, cnt_one, h1, h]; omega
        rcases hw1 with rfl | ⟨w1, hw1, rfl⟩
        · refine v_eqD (d := .tuple []) (e := .tuple []) rfl rfl (by decide +kernel) (by decide +kernel) ?_
          rfl'
          refine v_yesb (by decide +kernel) ?_
          rfl'
          exact ⟨rfl, _, _, enx, by rw [add (by unfold wt wdOf; simp)]; rfl⟩
        · refine v_eqD (d := .tuple [.str w1]) (e := .tuple []) rfl rfl (by simp [SeqAt.shaped, PyData.canLay0, PyData.canLayAll0, PyData.depth, PyData.depthAll, words7_ok w1 hw1]) (by decide +kernel) ?_
          rfl'
          refine v_nob (by simp [PyData.eqv, PyData.eqvAll]) ?_
          rfl'
          refine v_ix0 ?_
          rfl'
          refine v_in1 ?_
          rfl'
          refine v_ifd (fun hww => ?_) (fun hww => ?_)
          · rfl'
            exact ⟨rfl, _, _, enx, by rw [add (by unfold wt wdOf; simp [hww])]; rfl⟩
          · rfl'
            exact ⟨rfl, _, _, enx, by rw [add0 (by unfold wt wdOf; simp [hww])]; rfl⟩
      · unfold lpU
        rfl'
        refine v_eqS lp_str lp_str ?_
        rfl'
        refine v_yesb (by decide +kernel) ?_
        rfl'
        refine ih d' (Nat.lt_succ_self _) m b (by omega) (by omega) hb _ _ ?_
        have hb2 := cnt_bd hL (wt_bd ws) hb
        have sk : Sm k := sm_of (d := 0) (by decide) ⟨by have := hk.1; have := Bd_pos 0; omega, by have := hk.2; have := Bd_pos 0; omega⟩
        have sc : Sm (cnt (wt ws) d' b) := sm_of (d := d') (by omega) ⟨by have := hb2.1; have := Bd_pos d'; omega, by have := hb2.2; have := Bd_pos d'; omega⟩
        refine v_mul (log2m sk sc) ?_
        rfl'
        exact ⟨rfl, _, _, enx, by rw [cnt_app, cnt_one, ← cn1_lp (k := k) (b := b)]; rfl⟩
    · subst eT e
      rw [List.append_nil] at ex
      subst ex
      rfl'
      exact q
end Lf


set_option Elab.async false
set_option linter.all false
set_option maxRecDepth 100000
set_option maxHeartbeats 4000000
/-! ## steps and their paths -/
namespace Lf
open PySem PySem.Spec L2
section
variable {η : Lo} {T : Sto} {Fe : FxE} {Fl Fh : FxO} {Q : U → Sto → Prop} {QO : Option Int → Sto → Prop}
theorem v_sl (q : Wp (Fe η T) fun u T1 => Wp (Fl η T1) fun lo T2 => Wp (Fh η T2) fun hi T3 => Wp (gCut lo hi u T3) Q) : Wp (fSl Fe Fl Fh η T) Q := .bindE q fun _ _ q => .bindE q fun _ _ q => .bind q
theorem v_noP (q : QO none T) : Wp (fNoP η T) QO := .ok q
theorem v_pt (q : Wp (Fe η T) fun u T1 => ∃ i, u = .int i ∧ QO (some i) T1) : Wp (fPt Fe η T) QO := .bindE q fun _ _ ⟨i, e, q⟩ => by subst e; exact .ok q
theorem v_cutT {lo hi : Option Int} {xs : List U} (q : Q (.tup (cutU xs lo hi)) T) : Wp (gCut lo hi (.tup xs) T) Q := .ok q
end
theorem cut_one {α : Type} (done r : List α) (x : α) {i : Int} (hi : i = done.length) : cutU (done ++ x :: r) (some i) (some (i + 1)) = [x] := by
  subst hi
  unfold cutU
  have e : ((done.length : Nat) : Int) + 1 = ((done.length + 1 : Nat) : Int) := by omega
  rw [e, HT.sIx_nat, HT.sIx_nat, Nat.min_eq_left (by simp), Nat.min_eq_left (by simp)]
  simp
theorem cut_take {α : Type} (xs : List α) {i : Int} {n : Nat} (hi : i = n) : cutU xs none (some i) = xs.take n := by
  subst hi
  unfold cutU
  rw [HT.sIx_none, HT.sIx_nat, List.drop_zero, Nat.sub_zero]
  by_cases h : n ≤ xs.length
  · rw [Nat.min_eq_left h]
  · rw [Nat.min_eq_right (by omega), List.take_of_length_le (Nat.le_refl _), List.take_of_length_le (by omega)]
theorem cut_drop {α : Type} (xs : List α) {i : Int} {n : Nat} (hi : i = n) : cutU xs (some i) none = xs.drop n := by
  subst hi
  unfold cutU
  rw [HT.sIx_nat, HT.sIx_none]
  by_cases h : n ≤ xs.length
  · rw [Nat.min_eq_left h, List.take_of_length_le (by rw [List.length_drop]; exact Nat.le_refl _)]
  · rw [Nat.min_eq_right (by omega), Nat.sub_self, List.take_zero, List.drop_eq_nil_iff.mpr (by omega)]
abbrev stp (d : Nat) (xs : List U) : Int := cnt (wt []) d xs
theorem wt_op {x : U} (h : Op x) : wt [] x = 1 := by
  obtain ⟨w, is, rfl, _⟩ := h
  unfold wt wdOf
  simp
/-- step s of the program stands at the path P, it is the instruction it -/
inductive At : Nat → List U → List Int → Int → U → Prop
  | op {d : Nat} {done r : List U} {x : U} : Op x → At d (done ++ x :: r) [(done.length : Int)] (stp d done) x
  | lp {d : Nat} {done b r : List U} {k t s : Int} {P : List Int} {it : U} : 0 ≤ t → t < k → At d b P s it → At (d + 1) (done ++ lpU k b :: r) ((done.length : Int) :: t :: P) (stp (d + 1) done + (t * stp d b + s)) it
theorem Pn.part {A : U → Prop} {R : Int → Prop} {L d : Nat} {done r : List U} {x : U} (h : Pn A R L d (done ++ x :: r)) : Pn A R L d done := by
  refine h.sub (fun y hy => List.mem_append_left _ hy) ?_
  have := h.len
  rw [List.length_append] at this
  omega
theorem Pn.inner {R : Int → Prop} {L d : Nat} {done r : List U} {k : Int} {b : List U} (h : Pn Op R L (d + 1) (done ++ lpU k b :: r)) : R k ∧ Pn Op R L d b := by
  rcases h.2 (lpU k b) (by simp) with h | ⟨k', b', e, h1, h2⟩
  · have := h.no
    rw [lpOf_lpU] at this
    cases this
  · unfold lpU at e
    simp only [U.tup.injEq, List.cons.injEq, U.int.injEq, and_true, true_and] at e
    obtain ⟨rfl, rfl⟩ := e
    exact ⟨h1, h2⟩
theorem stp_nn {L d : Nat} {xs : List U} (hL : L ≤ 1000) (h : Pn Op Rd L d xs) : 0 ≤ stp d xs := (cnt_bd hL (wt_bd []) h).1
theorem At.bd {L : Nat} (hL : L ≤ 1000) {d : Nat} {xs : List U} {P : List Int} {s : Int} {it : U} (a : At d xs P s it) : Pn Op Rd L d xs → 0 ≤ s ∧ s < stp d xs := by
  induction a with
  | @op d done r x ho =>
    intro h
    have h1 := stp_nn hL h.part
    have h2 : Pn Op Rd L d r := h.sub (fun y hy => by simp [hy]) (by have := h.len; simp at this; omega)
    have h3 := stp_nn hL h2
    show _ ∧ _ < cnt (wt []) d (done ++ x :: r)
    rw [cnt_app, cnt_cons, cn1_op ho, wt_op ho]
    unfold stp at *
    omega
  | @lp d done b r k t s P it ht hk a ih =>
    intro h
    have h1 := stp_nn hL h.part
    have h2 : Pn Op Rd L (d + 1) r := h.sub (fun y hy => by simp [hy]) (by have := h.len; simp at this; omega)
    have h3 := stp_nn hL h2
    obtain ⟨hr, hb⟩ := h.inner
    have h4 := ih hb
    have h5 := Int.mul_nonneg ht (stp_nn hL hb)
    show _ ∧ _ < cnt (wt []) (d + 1) (done ++ lpU k b :: r)
    rw [cnt_app, cnt_cons, cn1_lp]
    have h6 : (t + 1) * stp d b ≤ k * stp d b := Int.mul_le_mul_of_nonneg_right (by omega) (stp_nn hL hb)
    rw [Int.add_mul] at h6
    unfold stp at *
    omega
/-- each step has its place -/
theorem At.find {L : Nat} (hL : L ≤ 1000) : ∀ (d : Nat) (xs : List U), Pn Op Rd L d xs → ∀ (done : List U) (s : Int), 0 ≤ s → s < stp d xs → (∀ xs' : List U, xs' = xs → Pn Op Rd L d (done ++ xs)) → ∃ P it, At d (done ++ xs) P (stp d done + s) it := by
  intro d
  induction d with
  | zero =>
    intro xs
    induction xs with
    | nil => intro _ done s h0 h1 _; rw [show stp 0 [] = 0 from rfl] at h1; omega
    | cons x r ih =>
      intro hx done s h0 h1 hw
      have ho : Op x := hx.2 x (List.mem_cons_self ..)
      have e := cnt_cons (wt []) 0 x r
      rw [cn1_op ho, wt_op ho] at e
      by_cases hs : s < 1
      · have : s = 0 := by omega
        subst this
        rw [Int.add_zero]
        exact ⟨_, _, .op ho⟩
      · have hr : Pn Op Rd L 0 r := hx.sub (fun y hy => by simp [hy]) (by have := hx.len; simp at this; omega)
        have := ih hr (done ++ [x]) (s - 1) (by omega) (by show s - 1 < cnt (wt []) 0 r; have : s < cnt (wt []) 0 (x :: r) := h1; omega) (fun _ _ => by rw [List.append_assoc]; exact hw _ rfl)
        rw [List.append_assoc] at this
        have e2 : stp 0 (done ++ [x]) = stp 0 done + 1 := by show cnt _ _ _ = _; rw [cnt_app, cnt_one, cn1_op ho, wt_op ho]
        rw [e2, show stp 0 done + 1 + (s - 1) = stp 0 done + s by omega] at this
        exact this
  | succ d ihd =>
    intro xs
    induction xs with
    | nil => intro _ done s h0 h1 _; rw [show stp (d + 1) [] = 0 from rfl] at h1; omega
    | cons x r ih =>
      intro hx done s h0 h1 hw
      have hr : Pn Op Rd L (d + 1) r := hx.sub (fun y hy => by simp [hy]) (by have := hx.len; simp at this; omega)
      have e := cnt_cons (wt []) (d + 1) x r
      have h1 : s < cnt (wt []) (d + 1) (x :: r) := h1
      by_cases hs : s < cn1 (wt []) (d + 1) x
      · rcases hx.item (List.mem_cons_self ..) with ho | ⟨d', k, b, ed, rfl, hk, hb⟩
        · rw [cn1_op ho, wt_op ho] at hs
          have : s = 0 := by omega
          subst this
          rw [Int.add_zero]
          exact ⟨_, _, .op ho⟩
        · cases ed
          rw [cn1_lp] at hs
          have hb0 := stp_nn hL hb
          have hc : 0 < stp d b := by
            by_cases z : stp d b = 0
            · have : cnt (wt []) d b = 0 := z
              rw [this, Int.mul_zero] at hs
              omega
            · omega
          have m := emod_bd (a := s) hc
          obtain ⟨P, it, a⟩ := ihd b hb [] (s % stp d b) m.1 m.2 (fun _ _ => hb)
          rw [List.nil_append, show stp d [] = 0 from cnt_nil _ _, Int.zero_add] at a
          have h7 := Int.emod_add_mul_ediv s (stp d b)
          have hq : 0 ≤ s / stp d b := Int.ediv_nonneg h0 (by omega)
          have hq2 : s / stp d b < k := Int.ediv_lt_of_lt_mul hc hs
          have := At.lp (done := done) (r := r) (k := k) hq hq2 a
          rw [show s / stp d b * stp d b + s % stp d b = s by rw [Int.mul_comm]; omega] at this
          exact ⟨_, _, this⟩
      · have := ih hr (done ++ [x]) (s - cn1 (wt []) (d + 1) x) (by omega) (by show _ < cnt (wt []) (d + 1) r; omega) (fun _ _ => by rw [List.append_assoc]; exact hw _ rfl)
        rw [List.append_assoc] at this
        have e2 : stp (d + 1) (done ++ [x]) = stp (d + 1) done + cn1 (wt []) (d + 1) x := by show cnt _ _ _ = _; rw [cnt_app, cnt_one]
        rw [e2, show stp (d + 1) done + cn1 (wt []) (d + 1) x + (s - cn1 (wt []) (d + 1) x) = stp (d + 1) done + s by omega] at this
        exact this
theorem At.ex {L : Nat} (hL : L ≤ 1000) {d : Nat} {xs : List U} (h : Pn Op Rd L d xs) {s : Int} (h0 : 0 ≤ s) (h1 : s < stp d xs) : ∃ P it, At d xs P s it := by
  have := At.find hL d xs h [] s h0 h1 (fun _ _ => h)
  rwa [List.nil_append, show stp d [] = 0 from cnt_nil _ _, Int.zero_add] at this
theorem At.isop {d : Nat} {xs : List U} {P : List Int} {s : Int} {it : U} (a : At d xs P s it) : Op it := by
  induction a with
  | op h => exact h
  | lp _ _ _ ih => exact ih
/-! is_within, step_count, locate -/
def iwA : FxS := fRet (fAndV (fCall gIsi (fCons (fVar 0) (fCons (fC (.raw (.ty "int"))) (fNil)))) (fAndV (fNotV (fCall gIsi (fCons (fVar 0) (fCons (fC (.raw (.ty "bool"))) (fNil))))) (fChain gLe gLe (fVar 1) (fVar 0) (fVar 2))))
local macro_rules | `(tactic| rfl') => `(tactic| repeat (first | with_reducible refine Lf.kS_nx ?_ | with_reducible refine Lf.kS_rt ?_ | with_reducible refine Lf.kS_bk ?_ | with_reducible refine Lf.kS_ct ?_ | with_reducible refine Lf.kD_rt ?_ | with_reducible refine Lf.kD_nx ?_ | with_reducible refine Lf.kF_nx ?_ | with_reducible refine Lf.kF_ct ?_ | with_reducible refine Lf.kF_bk ?_ | with_reducible refine Lf.kF_rt ?_ | with_reducible refine Lf.v_ifT ?_ | with_reducible refine Lf.v_ifF ?_ | with_reducible refine Lf.v_ifNT ?_ | with_reducible refine Lf.v_ifNF ?_ | with_reducible refine Lf.kP_int ?_ | with_reducible refine Lf.kP_bl ?_ | with_reducible refine Lf.kP_str ?_ | with_reducible refine Lf.kP_non ?_ | with_reducible refine Lf.v_iadd ?_ | with_reducible refine Lf.Wp.ok ?_ | with_reducible refine Lf.seq_wp ?_ | with_reducible refine Lf.v_bin ?_ | with_reducible refine Lf.v_cons ?_ | with_reducible refine Lf.v_call ?_ | with_reducible refine Lf.v_ret ?_ | with_reducible refine Lf.v_set ?_ | with_reducible refine Lf.v_asg ?_ | with_reducible refine Lf.v_if ?_ | with_reducible refine Lf.v_ifE ?_ | with_reducible refine Lf.v_bl ?_ | with_reducible refine Lf.v_tru ?_ | with_reducible refine Lf.v_and ?_ | with_reducible refine Lf.v_or ?_ | with_reducible refine Lf.v_not ?_ | with_reducible refine Lf.v_andV ?_ | with_reducible refine Lf.v_orV ?_ | with_reducible refine Lf.v_notV ?_ | with_reducible refine Lf.v_c ?_ | with_reducible refine Lf.v_nil ?_ | with_reducible refine Lf.v_skip ?_ | with_reducible refine Lf.v_drop ?_ | with_reducible refine Lf.v_retN ?_ | with_reducible refine Lf.v_brk ?_ | with_reducible refine Lf.v_cnt ?_ | with_reducible refine Lf.v_nm ?_ | with_reducible refine Lf.v_gnil ?_ | with_reducible refine Lf.v_gcons ?_ | with_reducible refine Lf.v_yes ?_ | with_reducible refine Lf.v_for ?_ | with_reducible refine Lf.v_lc ?_ | with_reducible refine Lf.v_rg ?_ | with_reducible refine Lf.v_iter ?_ | with_reducible refine Lf.v_iterT ?_ | with_reducible refine Lf.v_add ?_ | with_reducible refine Lf.v_sub ?_ | with_reducible refine Lf.v_neg ?_ | with_reducible refine Lf.v_lt ?_ | with_reducible refine Lf.v_le ?_ | with_reducible refine Lf.v_gt ?_ | with_reducible refine Lf.v_ge ?_ | with_reducible refine Lf.v_eqI ?_ | with_reducible refine Lf.v_neI ?_ | with_reducible refine Lf.v_abs ?_ | with_reducible refine Lf.v_intI ?_ | with_reducible refine Lf.v_intB ?_ | with_reducible refine Lf.v_max2 ?_ | with_reducible refine Lf.v_min2 ?_ | with_reducible refine Lf.v_lenT ?_ | with_reducible refine Lf.v_lenN ?_ | with_reducible refine Lf.v_nw ?_ | with_reducible refine Lf.v_un ?_ | with_reducible refine Lf.v_tup ?_ | with_reducible refine Lf.v_lst ?_ | with_reducible refine Lf.v_par2 ?_ | with_reducible refine Lf.v_par3 ?_ | with_reducible refine Lf.v_chain ?_ | with_reducible refine Lf.v_meth ?_ | with_reducible refine Lf.v_subT ?_ | with_reducible refine Lf.v_isiIB ?_ | with_reducible refine Lf.v_isiII ?_ | with_reducible refine Lf.v_sl ?_ | with_reducible refine Lf.v_noP ?_ | with_reducible refine Lf.v_pt ?_ | with_reducible refine Lf.v_cutT ?_ | ((with_reducible apply Lf.v_var); exact rfl) | ((with_reducible refine Lf.v_kw ?_ ?_); exact rfl) | ((with_reducible apply Lf.v_iterO); first | exact rfl | assumption) | ((with_reducible apply Lf.v_lenL); first | exact rfl | assumption) | ((with_reducible refine Lf.v_unp ?_ ?_); exact rfl) | ((with_reducible apply Lf.v_aug); exact rfl) | ((with_reducible refine Lf.v_mod ?_ ?_); first | decide | omega | assumption | fail) | ((with_reducible refine Lf.v_div ?_ ?_); first | exact ⟨by decide, by decide +kernel⟩ | assumption | exact Lf.log2d (by omega) ⟨by omega, by omega⟩ | fail) | ((with_reducible refine Lf.v_mul ?_ ?_); first | exact Lf.log2m ⟨by omega, by omega⟩ ⟨by omega, by omega⟩ | exact Lf.log2m (by assumption) ⟨by omega, by omega⟩ | exact Lf.log2m ⟨by omega, by omega⟩ (by assumption) | fail) | ((with_reducible refine Lf.v_pow ?_ ?_); exact ⟨by decide, by decide, by decide⟩) | ((with_reducible refine Lf.v_rg1 ?_ ?_); first | decide | fail) | ((with_reducible apply Lf.v_ixL); (first | exact rfl | assumption | fail); (first | exact rfl | assumption | fail)) | ((with_reducible apply Lf.v_ixT); (first | exact rfl | assumption | fail)) | ((with_reducible apply Lf.v_ixN); (first | exact rfl | assumption | fail)) | with_reducible refine ⟨_, rfl, ?_⟩ | (refine ⟨_, (rfl : Lf.tru _ (Lf.U.bl _) = some _), ?_⟩) | with_reducible refine ⟨_, _, rfl, ?_⟩ | with_reducible refine ⟨_, _, _, rfl, ?_⟩ | (refine ⟨(Nat.le_of_ble_eq_true rfl : List.length _ ≤ 16777216), ?_⟩) | with_reducible refine Lf.v_enum ?_ | fail))
theorem iwA_ok {g : List U → M U} (hg : g = gDef 3 iwA) {v lo hi : Int} (h1 : lo ≤ v) (h2 : v ≤ hi) {T : Sto} {Q : U → Sto → Prop} (q : Q (.bl true) T) : Wp (kdG .pur 3 g [.int v, .int lo, .int hi] T) Q := by
  subst hg
  refine purK rfl rfl (gDef_wp ?_)
  unfold iwA
  rfl'
  refine v_yesd h1 ?_
  rfl'
  rw [decide_eq_true h2]
  rfl'
  exact q
def scA (tm : List U → M U) : FxS := fRet (fCall (kdG .pur 2 tm) (fCons (fVar 0) (fCons (fTup (fNil)) (fNil))))
theorem scA_ok {g : List U → M U} {gt : Nat → List U → M U} {m : Nat} (hg : g = gDef 1 (scA (gt m))) (ht : ∀ m, gt (m + 1) = gDef 4 (tmA (gt m))) {L : Nat} (hL : L ≤ 1000) {d : Nat} {xs : List U} (hd : d < m) (hd2 : d ≤ 6) (h : Pn Op Rd L d xs) {T : Sto} {Q : U → Sto → Prop} (q : Q (.int (stp d xs)) T) : Wp (kdG .pur 1 g [.tup xs] T) Q := by
  subst hg
  refine purK rfl ?_ (gDef_wp ?_)
  · show (nrs xs && true) = true
    rw [h.nrs]; rfl
  unfold scA
  rfl'
  refine tm_ok ht (ws := []) (.inl rfl) hL d m xs hd hd2 h _ _ ?_
  rfl'
  exact q
def lcA (iw sc : List U → M U) : FxS := fSeq (fIf (fNot (fTru (fCall (kdG .pur 3 iw) (fCons (fVar 1) (fCons (fC (.int 0)) (fCons (fBin gSub (fCall (kdG .pur 1 sc) (fCons (fVar 0) (fNil))) (fC (.int 1))) (fNil))))))) (fNo) (fSkip)) (fSeq (fPar3 2 3 4 (fCons (fLst (fNil)) (fCons (fVar 0) (fCons (fVar 1) (fNil))))) (fWhile 1000000 (fTru (fC (.bl true))) (fSeq (fSet 5 (fC (.int 0))) (fSeq (fWhile 1000000 (fBl (fBin gGe (fVar 4) (fCall (kdG .pur 1 sc) (fCons (fSl (fVar 3) (fPt (fVar 5)) (fPt (fBin gAdd (fVar 5) (fC (.int 1))))) (fNil))))) (fSeq (fAug 4 gSub (fCall (kdG .pur 1 sc) (fCons (fSl (fVar 3) (fPt (fVar 5)) (fPt (fBin gAdd (fVar 5) (fC (.int 1))))) (fNil)))) (fAug 5 gIAdd (fC (.int 1))))) (fSeq (fDrop (fMeth isL gAppend (fVar 2) (fCons (fVar 5) (fNil)))) (fSeq (fSet 6 (fBin gIx (fVar 3) (fVar 5))) (fSeq (fIf (fBl (fBin (gEq true) (fBin gIx (fVar 6) (fC (.int 0))) (fC (.str "loop")))) (fRet (fTup (fCons (fCall gTuple (fCons (fVar 2) (fNil))) (fCons (fVar 6) (fNil))))) (fSkip)) (fSeq (fDrop (fMeth isL gAppend (fVar 2) (fCons (fBin gDiv (fVar 4) (fCall (kdG .pur 1 sc) (fCons (fBin gIx (fVar 6) (fC (.int 2))) (fNil)))) (fNil)))) (fSeq (fSet 4 (fBin gMod (fVar 4) (fCall (kdG .pur 1 sc) (fCons (fBin gIx (fVar 6) (fC (.int 2))) (fNil))))) (fSet 3 (fBin gIx (fVar 6) (fC (.int 2)))))))))))))
theorem stp_sm {L d : Nat} {xs : List U} (hL : L ≤ 1000) (hd : d ≤ 6) (h : Pn Op Rd L d xs) : stp d xs < 1000000000000000000 * Bd d := by
  have h1 := cnt_bd hL (wt_bd []) h
  have := Bd_pos d
  unfold stp
  omega
theorem At.head {L d : Nat} (hL : L ≤ 1000) {xs : List U} {P : List Int} {s : Int} {it : U} (a : At d xs P s it) (h : Pn Op Rd L d xs) : ∃ (done : List U) (x : U) (r : List U) (rest : Int), xs = done ++ x :: r ∧ s = stp d done + rest ∧ 0 ≤ rest ∧ rest < cn1 (wt []) d x ∧
    ((Op x ∧ it = x ∧ P = [(done.length : Int)]) ∨ ∃ (e : Nat) (k : Int) (b : List U) (t : Int) (Pe : List Int) (se : Int), d = e + 1 ∧ x = lpU k b ∧ P = (done.length : Int) :: t :: Pe ∧ 0 ≤ t ∧ t < k ∧ At e b Pe se it ∧ rest = t * stp e b + se ∧ Pn Op Rd L e b ∧ Rd k ∧ 0 ≤ se ∧ se < stp e b) := by
  cases a with
  | @op d done r x ho => exact ⟨done, it, r, 0, rfl, by omega, by decide, by rw [cn1_op ho, wt_op ho]; decide, .inl ⟨ho, rfl, rfl⟩⟩
  | @lp d done b r k t s P it ht hk a =>
    obtain ⟨hr, hb⟩ := h.inner
    have h4 := a.bd hL hb
    have h5 := Int.mul_nonneg ht (stp_nn hL hb)
    have h6 : (t + 1) * stp d b ≤ k * stp d b := Int.mul_le_mul_of_nonneg_right (by omega) (stp_nn hL hb)
    rw [Int.add_mul] at h6
    refine ⟨done, _, r, _, rfl, rfl, by omega, ?_, .inr ⟨d, k, b, t, P, s, rfl, rfl, rfl, ht, hk, a, rfl, hb, hr, h4.1, h4.2⟩⟩
    rw [cn1_lp]
    unfold stp at *
    omega
structure JL (d : Nat) (xs : List U) (L : Nat) (P : List Int) (it : U) (p s0 : U) (m : Nat) (η : Lo) (T : Sto) : Prop where
  ex : ∃ (d' : Nat) (ys : List U) (pre P' : List Int) (s : Int) (o5 o6 : Option U), η = [some p, some s0, some (.ob 0), some (.tup ys), some (.int s), o5, o6] ∧ T = [.lst (pre.map .int)] ∧ At d' ys P' s it ∧ Pn Op Rd L d' ys ∧ pre ++ P' = P ∧ d' ≤ d ∧ d' < m ∧ pre.length + 2 * m ≤ 1000
theorem lcA_ok {g iw sc : List U → M U} {gt : Nat → List U → M U} {m : Nat} (hg : g = gDef 7 (lcA iw sc)) (hw : iw = gDef 3 iwA) (hs : sc = gDef 1 (scA (gt m))) (ht : ∀ m, gt (m + 1) = gDef 4 (tmA (gt m))) {L : Nat} (hL : L ≤ 1000) {d : Nat} {xs : List U} (hd : d < m) (hd2 : d ≤ 6) (h : Pn Op Rd L d xs) {P : List Int} {s : Int} {it : U} (a : At d xs P s it)
    {T : Sto} {Q : U → Sto → Prop} (q : Q (.tup [.tup (P.map .int), it]) T) : Wp (kdG .pur 2 g [.tup xs, .int s] T) Q := by
  subst hg
  refine purK rfl ?_ (gDef_wp ?_)
  · show (nrs xs && (true && true)) = true
    rw [h.nrs]; rfl
  obtain ⟨s0, s1⟩ := a.bd hL h
  unfold lcA
  rfl'
  refine scA_ok hs ht hL hd hd2 h ?_
  rfl'
  refine iwA_ok hw s0 (by omega) ?_
  rfl'
  refine v_while (JL d xs L P it (.tup xs) (.int s)) (fun n η T j => ?_) (d + 1) 1000000 _ _ (by omega) ⟨d, xs, [], P, s, _, _, rfl, rfl, a, h, rfl, Nat.le_refl _, by omega, by simp; omega⟩
  obtain ⟨d', ys, pre, P', s', o5, o6, rfl, rfl, a', h', ep, hd', hdn, hl⟩ := j
  obtain ⟨done, x, r, rest, rfl, rfl, r0, r1, hc⟩ := a'.head hL h'
  have hdone := h'.part
  have hL1 : 1 ≤ L := by have := h'.len; simp at this; omega
  have one : ∀ y : U, y ∈ done ++ x :: r → Pn Op Rd L d' [y] := fun y hy => h'.sub (fun z hz => by rw [List.mem_singleton.mp hz]; exact hy) hL1
  rfl'
  refine ⟨by omega, ?_⟩
  rfl'
  refine v_while (fun n η T => ∃ d1 d2, n = d2.length ∧ done = d1 ++ d2 ∧ T = [.lst (pre.map .int)] ∧ η = [some (.tup xs), some (.int s), some (.ob 0), some (.tup (done ++ x :: r)), some (.int (stp d' d2 + rest)), some (.int (d1.length : Int)), o6]) (fun n η T j => ?_) done.length 1000000 _ _ (by have := hdone.len; omega) ⟨[], done, rfl, rfl, rfl, rfl⟩
  · obtain ⟨d1, d2, hn2, rfl, rfl, rfl⟩ := j
    cases d2 with
    | nil =>
      have ec : cutU (d1 ++ [] ++ x :: r) (some (d1.length : Int)) (some ((d1.length : Int) + 1)) = [x] := by
        rw [List.append_nil]; exact cut_one d1 r x rfl
      rfl'
      rw [ec]
      refine scA_ok hs ht hL (by omega) (by omega) (one x (by simp)) ?_
      rfl'
      have z1 : stp d' [x] = cn1 (wt []) d' x := cnt_one _ _ _
      have z0 : stp d' [] = 0 := cnt_nil _ _
      refine v_nod (fun z => ?_) ?_
      · rw [z1, z0] at z
        omega
      rw [z0, Int.zero_add]
      rcases hc with ⟨ho, rfl, rfl⟩ | ⟨e, k, b, t, Pe, se, rfl, rfl, rfl, t0, t1, ae, rfl, hb, hk, se0, se1⟩
      · obtain ⟨w, is, rfl, hw7, _, _⟩ := id ho
        have ix : atI (d1 ++ [] ++ U.tup (U.str w :: is.map .int) :: r) (d1.length : Int) = some (U.tup (U.str w :: is.map .int)) := by
          rw [List.append_nil]
          unfold atI ixN
          rw [if_pos (by omega), if_pos (by simp; omega)]
          simp
        rfl'
        refine ⟨rfl, ?_⟩
        rfl'
        refine v_app rfl ⟨by rw [List.length_map]; omega, ?_⟩
        rfl'
        refine v_ix0 ?_
        rfl'
        refine v_neS (words7_ok w hw7) lp_str ?_
        rfl'
        refine v_yesd (words7_ne w hw7) ?_
        rfl'
        refine v_tuple (xs := pre.map .int ++ [.int (d1.length : Int)]) rfl ?_
        rfl'
        subst ep
        refine kP_tup ?_ ?_
        · have e1 : nrs (pre.map .int ++ [.int (d1.length : Int)]) = true := by
            have := nrs_ints (pre ++ [(d1.length : Int)])
            rwa [List.map_append] at this
          show (nrs (pre.map .int ++ [.int (d1.length : Int)]) && (nr (.tup (.str w :: is.map .int)) && true)) = true
          rw [e1, nr_op ho]
          rfl
        · have e : (pre ++ [((d1 ++ [] : List U).length : Int)]).map U.int = pre.map .int ++ [.int (d1.length : Int)] := by simp
          rw [← e]
          exact q
      · have ix : atI (d1 ++ [] ++ lpU k b :: r) (d1.length : Int) = some (lpU k b) := by
          rw [List.append_nil]
          unfold atI ixN
          rw [if_pos (by omega), if_pos (by simp; omega)]
          simp
        have hc1 : 0 < stp e b := by omega
        rfl'
        refine ⟨rfl, ?_⟩
        rfl'
        refine v_app rfl ⟨by rw [List.length_map]; omega, ?_⟩
        rfl'
        unfold lpU
        rfl'
        refine v_neS lp_str lp_str ?_
        rfl'
        refine v_nod (fun z => z rfl) ?_
        rfl'
        refine ⟨rfl, ?_⟩
        rfl'
        refine scA_ok hs ht hL (by omega) (by omega) hb ?_
        refine v_div (log2d hc1 (sm_of (d := e) (by omega) ⟨by have := Bd_pos e; omega, by have := stp_sm hL (by omega) hb; omega⟩)) ?_
        rfl'
        refine v_app rfl ⟨by simp; omega, ?_⟩
        rfl'
        refine scA_ok hs ht hL (by omega) (by omega) hb ?_
        refine v_mod hc1 ?_
        rfl'
        have e1 : (t * stp e b + se) / stp e b = t := by
          rw [Int.add_comm, Int.add_mul_ediv_right _ _ (by omega), Int.ediv_eq_zero_of_lt se0 se1, Int.zero_add]
        have e2 : (t * stp e b + se) % stp e b = se := by
          rw [Int.add_comm, Int.add_mul_emod_self_right, Int.emod_eq_of_lt se0 se1]
        rw [e1, e2]
        refine ⟨e, b, pre ++ [(d1.length : Int), t], Pe, se, _, _, rfl, by simp, ae, hb, by rw [← ep]; simp, by omega, by omega, by simp; omega⟩
    | cons y d3 =>
      have ec : cutU (d1 ++ y :: d3 ++ x :: r) (some (d1.length : Int)) (some ((d1.length : Int) + 1)) = [y] := by
        rw [List.append_assoc, List.cons_append]; exact cut_one d1 _ y rfl
      rfl'
      rw [ec]
      refine scA_ok hs ht hL (by omega) (by omega) (one y (by simp)) ?_
      rfl'
      have z1 : stp d' (y :: d3) = stp d' [y] + stp d' d3 := by show cnt _ _ _ = cnt _ _ _ + cnt _ _ _; rw [cnt_cons, cnt_one]
      have h3 : 0 ≤ stp d' d3 := stp_nn hL (hdone.sub (fun z hz => by simp [hz]) (by have := hdone.len; simp at this; omega))
      refine v_yesd (by omega) ⟨by rw [hn2, List.length_cons]; omega, ?_⟩
      rfl'
      rw [ec]
      refine scA_ok hs ht hL (by omega) (by omega) (one y (by simp)) ?_
      rfl'
      refine ⟨d1 ++ [y], d3, by rw [hn2, List.length_cons]; omega, by simp, rfl, ?_⟩
      rw [show stp d' (y :: d3) + rest - stp d' [y] = stp d' d3 + rest by omega]
      simp
end Lf


set_option Elab.async false
set_option linter.all false
set_option maxRecDepth 100000
set_option maxHeartbeats 4000000
/-! ## max of a list -/
namespace Lf
open PySem PySem.Spec L2
def maxI (n : Int) (ns : List Int) : Int := ns.foldl (fun a b => if a < b then b else a) n
theorem maxI_mem : ∀ (ns : List Int) (n : Int), maxI n ns ∈ n :: ns ∧ ∀ b ∈ n :: ns, b ≤ maxI n ns
  | [], n => ⟨List.mem_cons_self .., fun b hb => by rw [List.mem_singleton.mp hb]; exact Int.le_refl _⟩
  | m :: ns, n => by
    have h := maxI_mem ns (if n < m then m else n)
    have e : maxI n (m :: ns) = maxI (if n < m then m else n) ns := rfl
    rw [e]
    refine ⟨?_, fun b hb => ?_⟩
    · rcases List.mem_cons.mp h.1 with h1 | h1
      · rw [h1]
        split
        · exact List.mem_cons_of_mem _ (List.mem_cons_self ..)
        · exact List.mem_cons_self ..
      · exact List.mem_cons_of_mem _ (List.mem_cons_of_mem _ h1)
    · have h2 := h.2 (if n < m then m else n) (List.mem_cons_self ..)
      have hh : n ≤ (if n < m then m else n) ∧ m ≤ (if n < m then m else n) := by split <;> omega
      rcases List.mem_cons.mp hb with rfl | hb
      · exact Int.le_trans hh.1 h2
      · rcases List.mem_cons.mp hb with rfl | hb
        · exact Int.le_trans hh.2 h2
        · exact h.2 b (List.mem_cons_of_mem _ hb)
def gMaxL : List U → M U := fun us T => match us with
  | [u] => match (lstU T u).bind intsU with
    | some (n :: ns) => .ok (.int (maxI n ns)) T
    | _ => .no
  | _ => .no
section
variable {X : Cx} {E : XK}
open PyProof.Rows in
theorem call_maxL (hc : X.calm = true) : CallR X (.builtin "max") (fun xs H Q => ∃ (a : Addr) (n : Int) (ns : List Int), xs = [.ref a] ∧ SqL X.K H a ((n :: ns).map V.int) ∧ Q (.int (maxI n ns)) H) := by
  intro pins s σ H xs us Q I r h
  obtain ⟨a, n, ns, rfl, hq, q⟩ := h
  obtain ⟨u, rfl, rfl⟩ := vals1 r
  obtain ⟨its, rv, pl, _⟩ := I.list hq
  have hi := rv.ints
  obtain ⟨xs, e⟩ := hi.allInts.items
  have hns : n :: ns = xs.toList.map (·.1) := by
    rw [← hi.numsOf, ← nums_intItems, ← e]
  have hsz : 0 < xs.size := by
    have h3 : 0 < (n :: ns).length := by simp
    rw [hns, List.length_map, Array.length_toList] at h3
    exact h3
  have hl := pl.isList
  rw [e] at hl
  refine PySem.max_intList (I.ok.hd hc) hl hsz fun v h' tk hv hk => ?_
  obtain ⟨t, rfl⟩ := intItems_at hv
  obtain ⟨h1, h2⟩ := argBest_gt (numAt xs) (xs.size - 1)
  have m1 : numAt xs (argBest (fun i j => decide (numAt xs i > numAt xs j)) (xs.size - 1)) ∈ n :: ns := by
    rw [hns, numAt_eq]
    exact getD_mem (by rw [List.length_map, Array.length_toList]; omega)
  have m2 : ∀ b ∈ n :: ns, b ≤ numAt xs (argBest (fun i j => decide (numAt xs i > numAt xs j)) (xs.size - 1)) := fun b hb => by
    rw [hns] at hb
    obtain ⟨j, hj, rfl⟩ := mem_getD hb
    rw [List.length_map, Array.length_toList] at hj
    rw [← numAt_eq]
    exact h2 j (by omega)
  have m := maxI_mem ns n
  have e2 : numAt xs (argBest (fun i j => decide (numAt xs i > numAt xs j)) (xs.size - 1)) = maxI n ns := by
    have a1 := m.2 _ m1
    have a2 := m2 _ m.1
    omega
  rw [e2]
  exact ⟨.int _, H, I.kept hk, ⟨t, rfl⟩, q⟩
theorem fcl_maxL (hc : X.calm = true) : FCall X E (.builtin "max") gMaxL := by
  refine ⟨_, call_maxL hc, fun ρ H T us xs Q s r h => ?_⟩
  unfold gMaxL at h
  split at h
  · split at h
    · rename_i u n ns e
      obtain ⟨ys, e1, e2⟩ := Option.bind_eq_some_iff.mp e
      match r with
      | .cons r .nil =>
        obtain ⟨a, vs, rfl, sq, rs⟩ := lstU_ok s r e1
        have := intsU_ok rs e2
        exact ⟨a, n, ns, rfl, by rw [this] at sq; exact sq, okV s h (.int _)⟩
    · exact False.elim h
  · exact False.elim h
end
theorem v_maxL {k : Nat} {n : Int} {ns : List Int} {T : Sto} {Q : U → Sto → Prop} (e : T[k]? = some (.lst ((n :: ns).map .int))) (e2 : intsU ((n :: ns).map .int) = some (n :: ns)) (q : Q (.int (maxI n ns)) T) : Wp (gMaxL [.ob k] T) Q := by
  unfold gMaxL lstU
  simp only [e, Option.bind_some, e2]
  exact .ok q
end Lf


set_option Elab.async false
set_option linter.all false
set_option maxRecDepth 100000
set_option maxHeartbeats 4000000
/-! ## t[::-1] -/
namespace Lf
open PySem PySem.Spec L2
section
open PyProof.Rows HT
variable {prog : Program} {w : World} {A : Around} {E : Value → Shared → Prop} {s : Shared}
theorem adjust_rev (n : Nat) : Builtin.Slice.sliceAdjust none none (-1) (n : Int) = ((n : Int) - 1, -1) := by
  unfold Builtin.Slice.sliceAdjust
  simp
theorem places_rev (n : Nat) : Builtin.Slice.slicePlaces ((n : Int) - 1) (-1) (-1) = n := by
  unfold Builtin.Slice.slicePlaces
  simp
  omega
theorem sliceApplied_rev {sl : Addr} {vk : Value} {n : Nat} {Q : Int × Int × Nat → Shared → Prop} (hs : s.heap.IsSliceOf sl .none .none vk) (pk : IsPart vk (some (-1)))
    (h : Q ((n : Int) - 1, -1, n) s) : wpAny (model prog w) A (Builtin.Slice.sliceApplied (.ref sl) (pure (n : Int))) Q E s := by
  obtain ⟨os, hos, hcs, hds⟩ := id hs
  unfold Builtin.Slice.sliceApplied Builtin.Slice.sliceFields
  refine wpAny_bind (wpAny_bind (wpAny_field hos hds (x := .none) rfl (wpAny_bind (wpAny_field hos hds (x := .none) rfl (wpAny_bind (wpAny_field hos hds (x := vk) rfl (wpAny_pure ?_)))))))
  refine wpAny_bind (slicePart_ pk ?_)
  show wpAny _ _ (if ((-1 : Int) == 0) = true then _ else _) _ _ s
  rw [if_neg (by decide)]
  refine wpAny_bind (slicePart_none (wpAny_bind (slicePart_none (wpAny_bind (wpAny_pure ?_)))))
  show wpAny _ _ (match Builtin.Slice.sliceAdjust none none (-1) (n : Int) with | (lo, hi) => pure (lo, (-1 : Int), Builtin.Slice.slicePlaces lo hi (-1))) _ _ s
  rw [adjust_rev n]
  show wpAny _ _ (pure ((n : Int) - 1, (-1 : Int), Builtin.Slice.slicePlaces ((n : Int) - 1) (-1) (-1))) _ _ s
  rw [places_rev]
  exact wpAny_pure h
theorem pick_rev (xs : Array Value) : ((List.range xs.size).filterMap fun (m : Nat) => xs[(((xs.size : Int) - 1) + (m : Int) * (-1)).toNat]?).toArray = xs.toList.reverse.toArray := by
  congr 1
  apply List.ext_getElem?
  intro i
  have key : ∀ k, k ≤ xs.size → (List.range k).filterMap (fun (m : Nat) => xs[(((xs.size : Int) - 1) + (m : Int) * (-1)).toNat]?) = (List.range k).map (fun m => xs.toList.reverse.getD m .none) := by
    intro k hk
    induction k with
    | zero => rfl
    | succ k ih =>
      rw [List.range_succ, List.filterMap_append, List.map_append, ih (by omega)]
      congr 1
      have e : (((xs.size : Int) - 1) + (k : Int) * (-1)).toNat = xs.size - 1 - k := by omega
      have hl : xs.size - 1 - k < xs.size := by omega
      rw [List.filterMap_cons, e, Array.getElem?_eq_getElem hl]
      simp
      rw [List.getElem?_reverse (by simpa using (by omega : k < xs.size))]
      simp
      rw [Array.getElem?_eq_getElem (by omega)]
      rfl
  rw [key _ (Nat.le_refl _)]
  by_cases h : i < xs.size
  · rw [List.getElem?_map, List.getElem?_range h]
    simp
    rw [List.getElem?_reverse (by simpa using h)]
    simp
    rw [Array.getElem?_eq_getElem (by omega)]
    rfl
  · rw [List.getElem?_eq_none (by simp; omega), List.getElem?_eq_none (by simp; omega)]
theorem getItem_tuple_rev {t sl : Addr} {items : Array Value} {vk : Value} {Q : Value → Shared → Prop} (ht : IsTup s.heap t items) (hs : s.heap.IsSliceOf sl .none .none vk) (pk : IsPart vk (some (-1)))
    (h : Q (.ref s.heap.objs.size) { s with heap := s.heap.push { cls := .type "tuple", data := .seq items.toList.reverse.toArray } })
    (hsz : items.size ≤ sizeLine) : wpAny (model prog w) A (getItem (.ref t) (.ref sl)) Q E s := by
  have htake : sizeOk (.seq items.toList.reverse.toArray) := by
    show items.toList.reverse.toArray.size ≤ sizeLine
    rw [List.size_toArray, List.length_reverse, Array.length_toList]
    exact hsz
  obtain ⟨os, hos, hcs, hds⟩ := id hs
  have hTs : s.TypeIs (.ref sl) "slice" := ⟨os, hos, hcs⟩
  unfold getItem
  try with_reducible refine wpAny_holding ?_
  first | refine wpAny_bind (wpAny_pure ?_) | skip
  refine wpAny_bind (wpAny_sequenceKey ht.typeIs (by decide) ?_)
  refine wpAny_bind (wpAny_callSpecial?_slot (name := Str.ofString "__getitem__") ht.typeIs PyProof.Rows.slot_tuple_getitem
    (wpAny_call_entry PyProof.Rows.slot_tuple_getitem ht.typeIs entry_tuple_getitem ?_ (args_tuple_getitem _ _)))
  show wpAny _ _ (Builtin.Tuple.tupleItemsOf (.ref t) >>= _) _ _ s
  refine wpAny_bind (tupleItemsOf_ ht ?_)
  refine wpAny_bind (wpAny_typeOf hTs ?_)
  rw [if_pos (by decide)]
  refine wpAny_bind (sliceApplied_rev hs pk ?_)
  have hno : ¬ ((((items.size : Int) - 1) == 0 && (-1 : Int) == 1 && items.size == items.size) = true) := by
    intro q
    rw [Bool.and_eq_true, Bool.and_eq_true] at q
    exact absurd (eq_of_beq q.1.2) (by decide)
  show wpAny _ _ (if (((items.size : Int) - 1) == 0 && (-1 : Int) == 1 && items.size == items.size) = true then _ else _) _ _ s
  rw [if_neg hno, pick_rev]
  first
    | exact wpAny_bind (m := Builtin.Tuple.tupleExact _) (wpAny_newObj_type (wpAny_pure ⟨_, rfl, wpAny_pure h⟩) htake)
    | exact wpAny_bind (m := Builtin.Tuple.tupleExact _) (wpAny_newObj_type (wpAny_bind (wpAny_pure (wpAny_pure ⟨_, rfl, wpAny_pure h⟩))) htake)
    | exact wpAny_bind (wpAny_bind (m := Builtin.Tuple.tupleExact _) (wpAny_newObj_type (wpAny_pure (wpAny_pure ⟨_, rfl, wpAny_pure h⟩)) htake))
    | exact wpAny_bind (wpAny_bind (m := Builtin.Tuple.tupleExact _) (wpAny_newObj_type (wpAny_pure ⟨_, rfl, wpAny_pure h⟩) htake))
end
section
variable {X : Cx} {E : XK}
def tRevA (K : PySem.W.Frag) (te : TE) : TE := fun σ H Q => te σ H fun x H1 => ∃ a xs, x = .ref a ∧ ((SqL K H1 a xs ∧ ∀ p, H1 p = none → Q (.ref p) (upd H1 p (.lst xs.reverse))) ∨ (SqT K H1 a xs ∧ ∀ p, H1 p = none → Q (.ref p) (upd H1 p (.tup xs.reverse))))
open PyProof.Rows in
theorem pe_revA {e : Expr} {te : TE} {k : Nat} {p1 p2 p3 pos : Pos} (he : PE X e te) : PE X (.Subscript e (.Slice none none (some (.UnaryOp .USub (.Constant (.int 1) k p1) p2)) p3) pos) (tRevA X.K te) := by
  refine ⟨fun pins s σ H Q I h => ?_⟩
  refine Subscript_ (thn (he.run pins s σ H _ I h) fun v s1 ⟨x, H1, I1, r1, q1⟩ => ?_)
  obtain ⟨a, xs, ex, hx⟩ := q1
  subst ex
  cases r1
  have hst : PO X (some (.UnaryOp .USub (.Constant (.int 1) k p1) p2)) (tPart (tUn (rU fun i => .int (-i)) (tC (.int 1)))) := po_some (pe_un un_neg pe_int)
  refine wpAny_Slice (thn (po_none.run pins s1 σ H1 (fun o H2 => o = none ∧ H2 = H1) I1 ⟨rfl, rfl⟩) fun vl s2 ⟨l, H2, I2, pl, el, e2⟩ => ?_)
  subst el e2
  refine thn (po_none.run pins s2 σ H2 (fun o H3 => o = none ∧ H3 = H2) I2 ⟨rfl, rfl⟩) fun vu s3 ⟨u, H3, I3, pu, eu, e3⟩ => ?_
  subst eu e3
  refine thn (hst.run pins s3 σ H3 (fun o H4 => o = some (-1) ∧ H4 = H3) I3 ⟨1, rfl, -1, rfl, rfl, rfl⟩) fun vs s4 ⟨o, H4, I4, ps, eo, e4⟩ => ?_
  subst eo e4
  have I5 : Inv X pins σ H4 { s4 with heap := s4.heap.push { cls := .type "slice", data := .fields #[vl, vu, vs] } } := I4.kept (t' := s4.toks) fun b ob q => Heap.get?_push_of_some _ q
  show wpAny (model X.prog X.w) X.A (subscriptTail e (.Slice none none (some (.UnaryOp .USub (.Constant (.int 1) k p1) p2)) p3) (.ref a) (.ref s4.heap.objs.size)) (EP X pins σ Q) X.xe { s4 with heap := s4.heap.push { cls := .type "slice", data := .fields #[vl, vu, vs] } }
  rcases hx with ⟨hx, q⟩ | ⟨hx, q⟩
  · obtain ⟨its, r, ht, hz⟩ := I5.list hx
    have hlen := r.length
    refine tail_any (ops := [.ref a, .ref s4.heap.objs.size]) ht.isList.typeIs (PySem.slot_list_getitem.lookup) ?_ (by with_unfolding_all rfl)
    refine wpAny_getItem_list_slice ht.isList (Heap.IsSliceOf.new _ vl vu vs) pl pu ps (by decide) ?_ (by rw [List.size_toArray]; omega)
    rw [PySem.W.krv_pick]
    refine ⟨.ref _, _, I5.laid (t' := s4.toks) (o := .lst xs.reverse) (fun b ob q => Heap.get?_push_of_some _ q) (Nat.le_refl _) ?_, rfl, q _ (I5.hok.fresh (Nat.le_refl _))⟩
    exact ⟨by rw [List.length_reverse]; exact hz, _, 0, r.reverse, Heap.get?_push_size _ rfl⟩
  · obtain ⟨its, r, ht, hz⟩ := I5.tuple hx
    have hlen := r.length
    cases pl
    cases pu
    refine tail_any (ops := [.ref a, .ref s4.heap.objs.size]) ht.typeIs (PyProof.Rows.slot_tuple_getitem.lookup) ?_ (by with_unfolding_all rfl)
    refine getItem_tuple_rev ht (Heap.IsSliceOf.new _ .none .none vs) ps ?_ (by rw [List.size_toArray]; omega)
    refine ⟨.ref _, _, I5.laid (t' := s4.toks) (o := .tup xs.reverse) (fun b ob q => Heap.get?_push_of_some _ q) (Nat.le_refl _) ?_, rfl, q _ (I5.hok.fresh (Nat.le_refl _))⟩
    exact ⟨by rw [List.length_reverse]; exact hz, _, r.reverse, IsTup.new _ _⟩
def gRev : U → M U := fun u T => match u with
  | .tup xs => .ok (.tup xs.reverse) T
  | .ob k => match T[k]? with
    | some (.lst xs) => nw (.lst xs.reverse) T
    | _ => .no
  | _ => .no
theorem fe_rev {e : Expr} {Fe : FxE} {k : Nat} {p1 p2 p3 pos : Pos} (he : FE X E e Fe) : FE X E (.Subscript e (.Slice none none (some (.UnaryOp .USub (.Constant (.int 1) k p1) p2)) p3) pos) (fUn gRev Fe) := by
  obtain ⟨t, ke, q⟩ := he
  refine ⟨_, pe_revA ke, fun σ H ρ T η Q s re h => ?_⟩
  refine q σ H ρ T η _ s re (OK.mono (OK.bind h) fun x H1 ⟨ρ1, T1, u, g1, s1, r1, k1⟩ => ?_)
  unfold gRev at k1
  split at k1
  · cases r1 with
    | tup sq rs => exact ⟨_, _, rfl, .inr ⟨sq, fun p n => okTup s1 k1 rs.reverse n⟩⟩
  · rename_i j
    split at k1
    · rename_i xs ey
      cases r1 with
      | ob ea =>
        obtain ⟨b, p, vs, f1, rs⟩ := s1.get ey
        rw [ea] at p
        cases p
        exact ⟨_, vs, rfl, .inl ⟨SqL.of f1, fun p n => okNew s1 k1 rs.reverse n⟩⟩
    · exact False.elim k1
  · exact False.elim k1
end
theorem v_revT {xs : List U} {T : Sto} {Q : U → Sto → Prop} (q : Q (.tup xs.reverse) T) : Wp (gRev (.tup xs) T) Q := .ok q
end Lf


set_option Elab.async false
set_option linter.all false
set_option maxRecDepth 100000
set_option maxHeartbeats 4000000
/-! ## runs -/
namespace Lf
open PySem PySem.Spec L2
/-- the steps of a program one by one -/
def flt : Nat → List U → List U
  | 0, xs => xs
  | d + 1, xs => xs.flatMap fun x => match lpOf x with
    | some (k, b) => (List.replicate k.toNat (flt d b)).flatten
    | none => [x]
theorem flt_nil (d : Nat) : flt d [] = [] := by cases d <;> rfl
theorem flt_cons (d : Nat) (x : U) (xs : List U) : flt d (x :: xs) = flt d [x] ++ flt d xs := by
  cases d with
  | zero => rfl
  | succ d =>
    show List.flatMap _ _ = List.flatMap _ _ ++ List.flatMap _ _
    simp
theorem flt_app (d : Nat) (xs ys : List U) : flt d (xs ++ ys) = flt d xs ++ flt d ys := by
  induction xs with
  | nil => rw [flt_nil]; rfl
  | cons x xs ih => rw [List.cons_append, flt_cons, ih, flt_cons d x xs, List.append_assoc]
theorem flt_op {d : Nat} {x : U} (h : Op x) : flt d [x] = [x] := by
  cases d with
  | zero => rfl
  | succ d =>
    show List.flatMap (fun x => match lpOf x with
      | some (k, b) => (List.replicate k.toNat (flt d b)).flatten
      | none => [x]) [x] = [x]
    simp [h.no]
theorem flt_lp {d : Nat} {k : Int} {b : List U} : flt (d + 1) [lpU k b] = (List.replicate k.toNat (flt d b)).flatten := by
  show List.flatMap _ [lpU k b] = _
  simp [lpOf_lpU]
theorem rep_len {α : Type} (k : Nat) (l : List α) : ((List.replicate k l).flatten.length : Int) = k * l.length := by
  induction k with
  | zero => simp
  | succ k ih => rw [List.replicate_succ, List.flatten_cons, List.length_append, Int.natCast_add, ih]; push_cast; rw [Int.add_mul]; omega
/-- as many as the steps -/
theorem flt_len {R : Int → Prop} (hR : ∀ k, R k → 0 ≤ k) {L : Nat} : ∀ {d : Nat} {xs : List U}, Pn Op R L d xs → ((flt d xs).length : Int) = stp d xs := by
  intro d
  induction d with
  | zero =>
    intro xs h
    have : ∀ xs : List U, (∀ x ∈ xs, Op x) → ((xs.length : Nat) : Int) = cnt (wt []) 0 xs := by
      intro xs
      induction xs with
      | nil => intro _; rfl
      | cons x xs ih =>
        intro h
        rw [cnt_cons, cn1_op (h x (List.mem_cons_self ..)), wt_op (h x (List.mem_cons_self ..)), ← ih fun y hy => h y (List.mem_cons_of_mem _ hy), List.length_cons]
        omega
    exact this xs h.2
  | succ d ih =>
    intro xs h
    have : ∀ xs : List U, (∀ x ∈ xs, Op x ∨ ∃ k b, x = lpU k b ∧ R k ∧ Pn Op R L d b) → ((flt (d + 1) xs).length : Int) = cnt (wt []) (d + 1) xs := by
      intro xs
      induction xs with
      | nil => intro _; rfl
      | cons x xs ihx =>
        intro h
        rw [flt_cons, cnt_cons, List.length_append, Int.natCast_add, ihx fun y hy => h y (List.mem_cons_of_mem _ hy)]
        rcases h x (List.mem_cons_self ..) with ho | ⟨k, b, rfl, hk, hb⟩
        · rw [flt_op ho, cn1_op ho, wt_op ho]; simp
        · rw [flt_lp, cn1_lp, rep_len, ih hb, Int.toNat_of_nonneg (hR k hk)]
    exact this xs h.2
theorem flt_ops {R : Int → Prop} {L : Nat} : ∀ {d : Nat} {xs : List U}, Pn Op R L d xs → ∀ x ∈ flt d xs, Op x := by
  intro d
  induction d with
  | zero => intro xs h; exact h.2
  | succ d ih =>
    intro xs h x hx
    obtain ⟨y, hy, hx⟩ := List.mem_flatMap.mp hx
    rcases h.2 y hy with ho | ⟨k, b, rfl, hk, hb⟩
    · rw [ho.no] at hx
      rw [List.mem_singleton.mp hx]
      exact ho
    · rw [lpOf_lpU] at hx
      obtain ⟨l, hl, hx⟩ := List.mem_flatten.mp hx
      rw [(List.mem_replicate.mp hl).2] at hx
      exact ih hb x hx
/-- at most N steps in it and in each of its bodies -/
def Ps (N : Int) : Nat → List U → Prop
  | 0, xs => (xs.length : Int) ≤ N ∧ ∀ x ∈ xs, Op x
  | d + 1, xs => stp (d + 1) xs ≤ N ∧ ∀ x ∈ xs, Op x ∨ ∃ k b, x = lpU k b ∧ 0 ≤ k ∧ k ≤ 1000000 ∧ Ps N d b
theorem Ps.item {N : Int} {d : Nat} {xs : List U} {x : U} (h : Ps N d xs) (hx : x ∈ xs) : Op x ∨ ∃ d' k b, d = d' + 1 ∧ x = lpU k b ∧ 0 ≤ k ∧ k ≤ 1000000 ∧ Ps N d' b := by
  cases d with
  | zero => exact .inl (h.2 x hx)
  | succ d =>
    rcases h.2 x hx with h | ⟨k, b, h1, h2, h3, h4⟩
    · exact .inl h
    · exact .inr ⟨d, k, b, rfl, h1, h2, h3, h4⟩
/-- as many as the steps, all of them instructions, no objects -/
theorem Ps.flt {N : Int} : ∀ {d : Nat} {xs : List U}, Ps N d xs → ((Lf.flt d xs).length : Int) = stp d xs ∧ (∀ x ∈ Lf.flt d xs, Op x) ∧ nrs xs = true
  | 0, xs, h => by
    refine ⟨?_, h.2, nrs_of fun x hx => nr_op (h.2 x hx)⟩
    have : ∀ xs : List U, (∀ x ∈ xs, Op x) → ((xs.length : Nat) : Int) = cnt (wt []) 0 xs := by
      intro xs
      induction xs with
      | nil => intro _; rfl
      | cons x xs ih =>
        intro h
        rw [cnt_cons, cn1_op (h x (List.mem_cons_self ..)), wt_op (h x (List.mem_cons_self ..)), ← ih fun y hy => h y (List.mem_cons_of_mem _ hy), List.length_cons]
        omega
    exact this xs h.2
  | d + 1, xs, h => by
    have key : ∀ xs : List U, (∀ x ∈ xs, Op x ∨ ∃ k b, x = lpU k b ∧ 0 ≤ k ∧ k ≤ 1000000 ∧ Ps N d b) → ((Lf.flt (d + 1) xs).length : Int) = cnt (wt []) (d + 1) xs ∧ (∀ x ∈ Lf.flt (d + 1) xs, Op x) ∧ nrs xs = true := by
      intro xs
      induction xs with
      | nil => intro _; exact ⟨rfl, fun _ h => (nomatch h), rfl⟩
      | cons x xs ihx =>
        intro h
        obtain ⟨i1, i2, i3⟩ := ihx fun y hy => h y (List.mem_cons_of_mem _ hy)
        rw [flt_cons, cnt_cons, List.length_append, Int.natCast_add, i1]
        show _ ∧ _ ∧ (nr x && nrs xs) = true
        rw [i3, Bool.and_true]
        rcases h x (List.mem_cons_self ..) with ho | ⟨k, b, rfl, hk, hk2, hb⟩
        · rw [flt_op ho, cn1_op ho, wt_op ho]
          refine ⟨by simp, fun y hy => ?_, nr_op ho⟩
          rcases List.mem_append.mp hy with hy | hy
          · rw [List.mem_singleton.mp hy]; exact ho
          · exact i2 y hy
        · obtain ⟨b1, b2, b3⟩ := Ps.flt hb
          rw [flt_lp, cn1_lp, rep_len, b1, Int.toNat_of_nonneg hk]
          refine ⟨rfl, fun y hy => ?_, nrs_lp b3⟩
          rcases List.mem_append.mp hy with hy | hy
          · obtain ⟨l, hl, hy⟩ := List.mem_flatten.mp hy
            rw [(List.mem_replicate.mp hl).2] at hy
            exact b2 y hy
          · exact i2 y hy
    exact key xs h.2
theorem ops_dat {T : Sto} {n : Nat} : ∀ xs : List U, (∀ x ∈ xs, Op x) → ∃ ds, dats (dat T (n + 2)) xs = some ds ∧ PyData.canLayAll0 ds = true ∧ PyData.depthAll ds ≤ 2 ∧ ds.length = xs.length
  | [], _ => ⟨[], rfl, rfl, by decide +kernel, rfl⟩
  | x :: xs, h => by
    obtain ⟨ds, h1, h2, h3, h4⟩ := ops_dat xs fun y hy => h y (List.mem_cons_of_mem _ hy)
    obtain ⟨w, is, rfl, hw, _⟩ := h x (List.mem_cons_self ..)
    have hi : ∀ ns : List Int, dats (dat T (n + 1)) (ns.map .int) = some (ns.map .int) := by
      intro ns
      induction ns with
      | nil => rfl
      | cons m ns ih => rw [List.map_cons]; unfold dats; rw [ih]; rfl
    have hl : ∀ ns : List Int, PyData.canLayAll0 (ns.map .int) = true ∧ PyData.depthAll (ns.map .int) = 0 := by
      intro ns
      induction ns with
      | nil => exact ⟨rfl, by decide +kernel⟩
      | cons m ns ih => rw [List.map_cons]; simp [PyData.canLayAll0, PyData.canLay0, PyData.depthAll, PyData.depth, ih]
    have e : dat T (n + 2) (.tup (.str w :: is.map .int)) = some (.tuple (.str w :: is.map .int)) := by
      show (dats (dat T (n + 1)) (.str w :: is.map .int)).map PyData.tuple = _
      unfold dats
      rw [hi is]; rfl
    refine ⟨.tuple (.str w :: is.map .int) :: ds, by unfold dats; rw [e, h1], ?_, ?_, by simp [h4]⟩
    · simp [PyData.canLayAll0, PyData.canLay0, h2, words7_ok w hw, hl]
    · simp [PyData.depthAll, PyData.depth, hl]; omega
end Lf


set_option Elab.async false
set_option linter.all false
set_option maxRecDepth 100000
set_option maxHeartbeats 4000000
namespace Lf
open PySem PySem.Spec L2
theorem v_ext {k j : Nat} {xs ys : List U} {T : Sto} {Q : U → Sto → Prop} (e : T[k]? = some (.lst xs)) (e2 : T[j]? = some (.lst ys)) (q : xs.length + ys.length ≤ 16777216 ∧ Q .non (T.set k (.lst (xs ++ ys)))) : Wp (gExtend (.ob k) [.ob j] T) Q := by
  unfold gExtend; simp only [e, e2, q.1, if_true]; exact .ok q.2
theorem v_mulL {i : Nat} {k : Int} {xs : List U} {T : Sto} {Q : U → Sto → Prop} (e : T[i]? = some (.lst xs)) (h : xs.length * k.toNat ≤ 16777216 ∧ -9223372036854775808 ≤ k ∧ k < 9223372036854775808) (q : Q (.ob T.length) (T ++ [.lst (List.replicate k.toNat xs).flatten])) : Wp (gMul (.ob i) (.int k) T) Q := by
  unfold gMul; simp only [e]; rw [if_pos h]; exact .ok q
def exA (self : List U → M U) : FxS :=
  fSeq (fSet 1 (fLst (fNil))) (fSeq (fFor (fIter (fVar 0)) (gNm 2) (fIf (fBl (fBin (gEq false) (fBin gIx (fVar 2) (fC (.int 0))) (fC (.str "loop")))) (fSeq (fSet 3 (fCall (kdG .pur 1 self) (fCons (fBin gIx (fVar 2) (fC (.int 2))) (fNil)))) (fDrop (fMeth isL gExtend (fVar 1) (fCons (fIfE (fBl (fBin (gEq true) (fVar 3) (fLst (fNil)))) (fBin gMul (fVar 3) (fBin gIx (fVar 2) (fC (.int 1)))) (fLst (fNil))) (fNil))))) (fDrop (fMeth isL gAppend (fVar 1) (fCons (fVar 2) (fNil)))))) (fRet (fVar 1)))
theorem stp_part {N : Int} {d : Nat} {done r : List U} (h : Ps N d (done ++ r)) : 0 ≤ stp d done ∧ stp d (done ++ r) = stp d done + stp d r ∧ 0 ≤ stp d r := by
  have key : ∀ xs : List U, (∀ x ∈ xs, x ∈ done ++ r) → 0 ≤ cnt (wt []) d xs := by
    intro xs
    induction xs with
    | nil => intro _; rw [cnt_nil]; exact Int.le_refl _
    | cons x xs ih =>
      intro hs
      rw [cnt_cons]
      have h1 := ih fun y hy => hs y (List.mem_cons_of_mem _ hy)
      rcases h.item (hs x (List.mem_cons_self ..)) with ho | ⟨d', k, b, rfl, rfl, hk, _, hb⟩
      · rw [cn1_op ho, wt_op ho]; omega
      · rw [cn1_lp]
        have h2 : (0 : Int) ≤ cnt (wt []) d' b := by
          have := (Ps.flt hb).1
          unfold stp at this
          omega
        have := Int.mul_nonneg hk h2
        omega
  exact ⟨key done fun x hx => List.mem_append_left _ hx, cnt_app _ _ _ _, key r fun x hx => List.mem_append_right _ hx⟩
theorem Ps.tot {N : Int} {d : Nat} {xs : List U} (h : Ps N d xs) : stp d xs ≤ N := by
  cases d with
  | zero =>
    have h1 := (Ps.flt h).1
    have h2 : ((xs.length : Nat) : Int) = stp 0 xs := h1
    have := h.1
    omega
  | succ d => exact h.1
local macro_rules | `(tactic| rfl') => `(tactic| repeat (first | with_reducible refine Lf.kS_nx ?_ | with_reducible refine Lf.kS_rt ?_ | with_reducible refine Lf.kS_bk ?_ | with_reducible refine Lf.kS_ct ?_ | with_reducible refine Lf.kD_rt ?_ | with_reducible refine Lf.kD_nx ?_ | with_reducible refine Lf.kF_nx ?_ | with_reducible refine Lf.kF_ct ?_ | with_reducible refine Lf.kF_bk ?_ | with_reducible refine Lf.kF_rt ?_ | with_reducible refine Lf.v_ifT ?_ | with_reducible refine Lf.v_ifF ?_ | with_reducible refine Lf.v_ifNT ?_ | with_reducible refine Lf.v_ifNF ?_ | with_reducible refine Lf.kP_int ?_ | with_reducible refine Lf.kP_bl ?_ | with_reducible refine Lf.kP_str ?_ | with_reducible refine Lf.kP_non ?_ | with_reducible refine Lf.v_iadd ?_ | with_reducible refine Lf.Wp.ok ?_ | with_reducible refine Lf.seq_wp ?_ | with_reducible refine Lf.v_bin ?_ | with_reducible refine Lf.v_cons ?_ | with_reducible refine Lf.v_call ?_ | with_reducible refine Lf.v_ret ?_ | with_reducible refine Lf.v_set ?_ | with_reducible refine Lf.v_asg ?_ | with_reducible refine Lf.v_if ?_ | with_reducible refine Lf.v_ifE ?_ | with_reducible refine Lf.v_bl ?_ | with_reducible refine Lf.v_tru ?_ | with_reducible refine Lf.v_and ?_ | with_reducible refine Lf.v_or ?_ | with_reducible refine Lf.v_not ?_ | with_reducible refine Lf.v_andV ?_ | with_reducible refine Lf.v_orV ?_ | with_reducible refine Lf.v_notV ?_ | with_reducible refine Lf.v_c ?_ | with_reducible refine Lf.v_nil ?_ | with_reducible refine Lf.v_skip ?_ | with_reducible refine Lf.v_drop ?_ | with_reducible refine Lf.v_retN ?_ | with_reducible refine Lf.v_brk ?_ | with_reducible refine Lf.v_cnt ?_ | with_reducible refine Lf.v_nm ?_ | with_reducible refine Lf.v_gnil ?_ | with_reducible refine Lf.v_gcons ?_ | with_reducible refine Lf.v_yes ?_ | with_reducible refine Lf.v_for ?_ | with_reducible refine Lf.v_lc ?_ | with_reducible refine Lf.v_rg ?_ | with_reducible refine Lf.v_iter ?_ | with_reducible refine Lf.v_iterT ?_ | with_reducible refine Lf.v_add ?_ | with_reducible refine Lf.v_sub ?_ | with_reducible refine Lf.v_neg ?_ | with_reducible refine Lf.v_lt ?_ | with_reducible refine Lf.v_le ?_ | with_reducible refine Lf.v_gt ?_ | with_reducible refine Lf.v_ge ?_ | with_reducible refine Lf.v_eqI ?_ | with_reducible refine Lf.v_neI ?_ | with_reducible refine Lf.v_abs ?_ | with_reducible refine Lf.v_intI ?_ | with_reducible refine Lf.v_intB ?_ | with_reducible refine Lf.v_max2 ?_ | with_reducible refine Lf.v_min2 ?_ | with_reducible refine Lf.v_lenT ?_ | with_reducible refine Lf.v_lenN ?_ | with_reducible refine Lf.v_nw ?_ | with_reducible refine Lf.v_un ?_ | with_reducible refine Lf.v_tup ?_ | with_reducible refine Lf.v_lst ?_ | with_reducible refine Lf.v_par2 ?_ | with_reducible refine Lf.v_par3 ?_ | with_reducible refine Lf.v_chain ?_ | with_reducible refine Lf.v_meth ?_ | with_reducible refine Lf.v_subT ?_ | with_reducible refine Lf.v_isiIB ?_ | with_reducible refine Lf.v_isiII ?_ | with_reducible refine Lf.v_sl ?_ | with_reducible refine Lf.v_noP ?_ | with_reducible refine Lf.v_pt ?_ | with_reducible refine Lf.v_cutT ?_ | ((with_reducible apply Lf.v_var); exact rfl) | ((with_reducible refine Lf.v_kw ?_ ?_); exact rfl) | ((with_reducible apply Lf.v_iterO); first | exact rfl | assumption) | ((with_reducible apply Lf.v_lenL); first | exact rfl | assumption) | ((with_reducible refine Lf.v_unp ?_ ?_); exact rfl) | ((with_reducible apply Lf.v_aug); exact rfl) | ((with_reducible refine Lf.v_mod ?_ ?_); first | decide | omega | assumption | fail) | ((with_reducible refine Lf.v_div ?_ ?_); first | exact ⟨by decide, by decide +kernel⟩ | assumption | exact Lf.log2d (by omega) ⟨by omega, by omega⟩ | fail) | ((with_reducible refine Lf.v_mul ?_ ?_); first | exact Lf.log2m ⟨by omega, by omega⟩ ⟨by omega, by omega⟩ | exact Lf.log2m (by assumption) ⟨by omega, by omega⟩ | exact Lf.log2m ⟨by omega, by omega⟩ (by assumption) | fail) | ((with_reducible refine Lf.v_pow ?_ ?_); exact ⟨by decide, by decide, by decide⟩) | ((with_reducible refine Lf.v_rg1 ?_ ?_); first | decide | fail) | ((with_reducible apply Lf.v_ixL); (first | exact rfl | assumption | fail); (first | exact rfl | assumption | fail)) | ((with_reducible apply Lf.v_ixT); (first | exact rfl | assumption | fail)) | ((with_reducible apply Lf.v_ixN); (first | exact rfl | assumption | fail)) | with_reducible refine ⟨_, rfl, ?_⟩ | (refine ⟨_, (rfl : Lf.tru _ (Lf.U.bl _) = some _), ?_⟩) | with_reducible refine ⟨_, _, rfl, ?_⟩ | with_reducible refine ⟨_, _, _, rfl, ?_⟩ | (refine ⟨(Nat.le_of_ble_eq_true rfl : List.length _ ≤ 16777216), ?_⟩) | with_reducible refine Lf.v_enum ?_ | fail))
theorem exA_ok {g : Nat → List U → M U} (hg : ∀ m, g (m + 1) = gDef 4 (exA (g m))) {N : Int} (hN : N ≤ 4000000) : ∀ (d m : Nat) (xs : List U), d < m → Ps N d xs → ∀ (T : Sto) (Q : U → Sto → Prop), Q (.ob T.length) (T ++ [.lst (flt d xs)]) → Wp (kdG .pur 1 (g m) [.tup xs] T) Q := by
  intro d
  induction d using Nat.strongRecOn with
  | ind d ih =>
    intro m xs hm hx T Q q
    obtain ⟨m, rfl⟩ : ∃ m', m = m' + 1 := ⟨m - 1, by omega⟩
    obtain ⟨f1, f2, f3⟩ := Ps.flt hx
    have ht := hx.tot
    rw [hg]
    refine purK rfl ?_ (gDef_wp ?_)
    · show (nrs xs && true) = true
      rw [f3]; rfl
    unfold exA
    rfl'
    refine wp_forC (fun r η T => ∃ done o2 o3, xs = done ++ r ∧ η = [some (.tup xs), some (.ob 0), o2, o3] ∧ T[0]? = some (.lst (flt d done))) ⟨[], _, _, rfl, rfl, by rw [flt_nil]; rfl⟩ (fun x r η T1 ⟨done, o2, o3, ex, e, hT⟩ => ?_) (fun η T1 ⟨done, o2, o3, ex, e, hT⟩ => ?_)
    · subst e
      have hxx : x ∈ xs := by rw [ex]; exact List.mem_append_right _ (List.mem_cons_self ..)
      have enx : xs = (done ++ [x]) ++ r := by rw [ex]; simp
      have p1 := stp_part (done := done ++ [x]) (r := r) (by rw [← enx]; exact hx)
      rw [← enx] at p1
      have p2 : stp d (done ++ [x]) = stp d done + cn1 (wt []) d x := by show cnt _ _ _ = cnt _ _ _ + _; rw [cnt_app, cnt_one]
      have p3 := stp_part (done := done) (r := x :: r) (by rw [← ex]; exact hx)
      rw [← ex] at p3
      have fl : ((flt d done).length : Int) = stp d done := by
        have hd : Ps N d done := by
          have ha : ∀ y ∈ done, y ∈ xs := fun y hy => by rw [ex]; exact List.mem_append_left _ hy
          have hs : stp d done ≤ N := by omega
          cases d with
          | zero =>
            refine ⟨?_, fun y hy => hx.2 y (ha y hy)⟩
            have := hx.1
            rw [ex] at this
            simp at this
            omega
          | succ d => exact ⟨hs, fun y hy => hx.2 y (ha y hy)⟩
        exact (Ps.flt hd).1
      have isl : ∀ T2 : Sto, T2[0]? = some (.lst (flt d done)) → isL T2 (.ob 0) = true := fun T2 h => by unfold isL; simp only [h]
      rcases hx.item hxx with ho | ⟨d', k, b, rfl, rfl, hk, hk2, hb⟩
      · have e1 := flt_op (d := d) ho
        rw [cn1_op ho, wt_op ho] at p2
        obtain ⟨w, is, rfl, hw, _, _⟩ := ho
        rfl'
        refine v_ix0 ?_
        rfl'
        refine v_eqS (words7_ok w hw) lp_str ?_
        rfl'
        refine v_nod (words7_ne w hw) ?_
        rfl'
        refine ⟨isl _ hT, ?_⟩
        rfl'
        refine v_app hT ⟨by omega, ?_⟩
        rfl'
        exact ⟨_, _, _, enx, rfl, by rw [List.getElem?_set_self (lt_at hT), flt_app, e1]⟩
      · obtain ⟨b1, b2, b3⟩ := Ps.flt hb
        rw [cn1_lp] at p2
        unfold lpU
        rfl'
        refine v_eqS lp_str lp_str ?_
        rfl'
        refine v_yesd rfl ?_
        rfl'
        refine ih d' (Nat.lt_succ_self _) m b (by omega) hb _ _ ?_
        have hB : stp d' b ≤ N := hb.tot
        have hT2 : (T1 ++ [O.lst (flt d' b)])[0]? = some (.lst (flt (d' + 1) done)) := by rw [List.getElem?_append_left (lt_at hT)]; exact hT
        have hb2 : (T1 ++ [O.lst (flt d' b)])[T1.length]? = some (.lst (flt d' b)) := by simp
        generalize T1 ++ [O.lst (flt d' b)] = T2 at hT2 hb2 ⊢
        generalize T1.length = jb at hb2 ⊢
        rfl'
        refine ⟨isl _ hT2, ?_⟩
        rfl'
        have hT3 : (T2 ++ [O.lst []])[0]? = some (.lst (flt (d' + 1) done)) := by rw [List.getElem?_append_left (lt_at hT2)]; exact hT2
        have hb3 : (T2 ++ [O.lst []])[jb]? = some (.lst (flt d' b)) := by rw [List.getElem?_append_left (lt_at hb2)]; exact hb2
        have he3 : (T2 ++ [O.lst []])[T2.length]? = some (.lst []) := by simp
        generalize T2.length = je at he3 ⊢
        generalize T2 ++ [O.lst []] = T3 at hT3 hb3 he3 ⊢
        obtain ⟨ds, d1, d2, d3, d4⟩ := ops_dat (T := T3) (n := 63) (flt d' b) b2
        have da : dat T3 66 (.ob jb) = some (.list ds) := by
          show (match T3[jb]? with
            | some (.lst xs) => (dats (dat T3 65) xs).map PyData.list
            | _ => none) = _
          rw [hb3]
          show (dats (dat T3 65) (flt d' b)).map PyData.list = _
          rw [d1]; rfl
        have de : dat T3 66 (.ob je) = some (.list []) := by
          show (match T3[je]? with
            | some (.lst xs) => (dats (dat T3 65) xs).map PyData.list
            | _ => none) = _
          rw [he3]; rfl
        refine v_neD da de (by simp [SeqAt.shaped, PyData.canLay0, PyData.depth, d2]; omega) (by decide +kernel) ?_
        rfl'
        have last : ∀ (T4 : Sto) (j : Nat) (ys : List U), T4[0]? = some (.lst (flt (d' + 1) done)) → T4[j]? = some (.lst ys) → ys = (List.replicate k.toNat (flt d' b)).flatten → (ys.length : Int) = k * stp d' b → Wp (gExtend (.ob 0) [.ob j] T4) fun _ T5 => T5[0]? = some (.lst (flt (d' + 1) (done ++ [lpU k b]))) := fun T4 j ys h0 hj hy hl => by
          refine v_ext h0 hj ⟨?_, ?_⟩
          · have : (ys.length : Int) = k * cnt (wt []) d' b := hl
            omega
          · rw [List.getElem?_set_self (lt_at h0), flt_app, flt_lp, hy]
        have rl := rep_len k.toNat (flt d' b)
        rw [b1, Int.toNat_of_nonneg hk] at rl
        by_cases hne : flt d' b = []
        · have hds : ds = [] := by
            have : ds.length = 0 := by rw [d4, hne]; rfl
            exact List.length_eq_zero_iff.mp this
          subst hds
          refine v_nob (by decide +kernel) ?_
          rfl'
          have h4 : (T3 ++ [O.lst []])[0]? = some (.lst (flt (d' + 1) done)) := by rw [List.getElem?_append_left (lt_at hT3)]; exact hT3
          refine .mono (last _ T3.length [] h4 (by simp) (by rw [hne]; simp) (by rw [← rl, hne]; simp)) fun _ T5 h5 => ?_
          exact ⟨_, _, _, enx, rfl, h5⟩
        · have hds : ds ≠ [] := fun z => by
            rw [z] at d4
            exact hne (List.length_eq_zero_iff.mp d4.symm)
          refine v_yesb (by cases ds with
            | nil => exact absurd rfl hds
            | cons e ds => simp [PyData.eqv, PyData.eqvAll]) ?_
          rfl'
          refine v_mulL hb3 ⟨?_, by omega, by omega⟩ ?_
          · have z1 : (((flt d' b).length * k.toNat : Nat) : Int) = k * cnt (wt []) d' b := by
              rw [Int.natCast_mul, b1, Int.toNat_of_nonneg hk, Int.mul_comm]
            omega
          rfl'
          have h4 : (T3 ++ [O.lst (List.replicate k.toNat (flt d' b)).flatten])[0]? = some (.lst (flt (d' + 1) done)) := by rw [List.getElem?_append_left (lt_at hT3)]; exact hT3
          refine .mono (last _ T3.length _ h4 (by simp) rfl rl) fun _ T5 h5 => ?_
          exact ⟨_, _, _, enx, rfl, h5⟩
    · subst e
      rw [List.append_nil] at ex
      subst ex
      rfl'
      refine kP_ob hT ?_ q
      exact nrs_of fun x hx => nr_op (f2 x hx)
end Lf


set_option Elab.async false
set_option linter.all false
set_option maxRecDepth 100000
set_option maxHeartbeats 4000000
namespace Lf
open PySem PySem.Spec L2
/-- the registers after an instruction -/
def aft (p : Int) : U → List Int → Int → List Int
  | .tup [.str w, .int a], rs, v => if w = "read" then rs.set a.toNat v else rs
  | .tup [.str w, .int a, .int c], rs, _ => if w = "set" then rs.set a.toNat c else if w = "copy" then rs.set a.toNat (rs.getD c.toNat 0) else if w = "scale" then rs.set a.toNat (rs.getD a.toNat 0 * c % p) else (rs.set a.toNat (rs.getD c.toNat 0)).set c.toNat (rs.getD a.toNat 0)
  | .tup [.str _, .int a, .int b, .int c], rs, _ => rs.set a.toNat ((rs.getD a.toNat 0 + c * rs.getD b.toNat 0) % p)
  | _, rs, _ => rs
theorem atI_regs {rs : List Int} {a : Int} (h0 : 0 ≤ a) (h1 : a < rs.length) : atI (rs.map U.int) a = some (.int (rs.getD a.toNat 0)) := by
  have h : a.toNat < rs.length := by omega
  unfold atI ixN
  rw [if_pos h0, if_pos (by rw [List.length_map]; exact h1)]
  simp [h]
theorem setIt_regs {rs : List Int} {a v : Int} {k : Nat} {T : Sto} (h : T[k]? = some (.lst (rs.map .int))) (h0 : 0 ≤ a) (h1 : a < rs.length) : gSetIt (.ob k) (.int a) (.int v) T = some (T.set k (.lst ((rs.set a.toNat v).map .int))) := by
  have e : ixN (rs.map U.int).length a = some a.toNat := by
    unfold ixN
    rw [if_pos h0, if_pos (by rw [List.length_map]; exact h1)]
  unfold gSetIt
  simp only [h, e, List.map_set]
def afA : FxS :=
  fSeq (fPar2 4 5 (fCons (fCall gList (fCons (fVar 2) (fNil))) (fCons (fBin gIx (fVar 1) (fC (.int 1))) (fNil)))) (fSeq (fIf (fBl (fBin (gEq false) (fBin gIx (fVar 1) (fC (.int 0))) (fC (.str "set")))) (fAsg (fBin gIx (fVar 1) (fC (.int 2))) (gSubT (fVar 4) (fVar 5))) (fIf (fBl (fBin (gEq false) (fBin gIx (fVar 1) (fC (.int 0))) (fC (.str "copy")))) (fAsg (fBin gIx (fVar 2) (fBin gIx (fVar 1) (fC (.int 2)))) (gSubT (fVar 4) (fVar 5))) (fIf (fBl (fBin (gEq false) (fBin gIx (fVar 1) (fC (.int 0))) (fC (.str "add")))) (fAsg (fBin gMod (fBin gAdd (fBin gIx (fVar 2) (fVar 5)) (fBin gMul (fBin gIx (fVar 1) (fC (.int 3))) (fBin gIx (fVar 2) (fBin gIx (fVar 1) (fC (.int 2)))))) (fVar 0)) (gSubT (fVar 4) (fVar 5))) (fIf (fBl (fBin (gEq false) (fBin gIx (fVar 1) (fC (.int 0))) (fC (.str "scale")))) (fAsg (fBin gMod (fBin gMul (fBin gIx (fVar 2) (fVar 5)) (fBin gIx (fVar 1) (fC (.int 2)))) (fVar 0)) (gSubT (fVar 4) (fVar 5))) (fIf (fBl (fBin (gEq false) (fBin gIx (fVar 1) (fC (.int 0))) (fC (.str "swap")))) (fAsg (fTup (fCons (fBin gIx (fVar 2) (fBin gIx (fVar 1) (fC (.int 2)))) (fCons (fBin gIx (fVar 2) (fVar 5)) (fNil)))) (gUnp 2 (gCons (gSubT (fVar 4) (fVar 5)) (gCons (gSubT (fVar 4) (fBin gIx (fVar 1) (fC (.int 2)))) (gNil))))) (fIf (fBl (fBin (gEq false) (fBin gIx (fVar 1) (fC (.int 0))) (fC (.str "read")))) (fAsg (fVar 3) (gSubT (fVar 4) (fVar 5))) (fSkip))))))) (fRet (fCall gTuple (fCons (fVar 4) (fNil)))))
local macro_rules | `(tactic| rfl') => `(tactic| repeat (first | with_reducible refine Lf.kS_nx ?_ | with_reducible refine Lf.kS_rt ?_ | with_reducible refine Lf.kS_bk ?_ | with_reducible refine Lf.kS_ct ?_ | with_reducible refine Lf.kD_rt ?_ | with_reducible refine Lf.kD_nx ?_ | with_reducible refine Lf.kF_nx ?_ | with_reducible refine Lf.kF_ct ?_ | with_reducible refine Lf.kF_bk ?_ | with_reducible refine Lf.kF_rt ?_ | with_reducible refine Lf.v_ifT ?_ | with_reducible refine Lf.v_ifF ?_ | with_reducible refine Lf.v_ifNT ?_ | with_reducible refine Lf.v_ifNF ?_ | with_reducible refine Lf.kP_int ?_ | with_reducible refine Lf.kP_bl ?_ | with_reducible refine Lf.kP_str ?_ | with_reducible refine Lf.kP_non ?_ | with_reducible refine Lf.v_iadd ?_ | with_reducible refine Lf.Wp.ok ?_ | with_reducible refine Lf.seq_wp ?_ | with_reducible refine Lf.v_bin ?_ | with_reducible refine Lf.v_cons ?_ | with_reducible refine Lf.v_call ?_ | with_reducible refine Lf.v_ret ?_ | with_reducible refine Lf.v_set ?_ | with_reducible refine Lf.v_asg ?_ | with_reducible refine Lf.v_if ?_ | with_reducible refine Lf.v_ifE ?_ | with_reducible refine Lf.v_bl ?_ | with_reducible refine Lf.v_tru ?_ | with_reducible refine Lf.v_and ?_ | with_reducible refine Lf.v_or ?_ | with_reducible refine Lf.v_not ?_ | with_reducible refine Lf.v_andV ?_ | with_reducible refine Lf.v_orV ?_ | with_reducible refine Lf.v_notV ?_ | with_reducible refine Lf.v_c ?_ | with_reducible refine Lf.v_nil ?_ | with_reducible refine Lf.v_skip ?_ | with_reducible refine Lf.v_drop ?_ | with_reducible refine Lf.v_retN ?_ | with_reducible refine Lf.v_brk ?_ | with_reducible refine Lf.v_cnt ?_ | with_reducible refine Lf.v_nm ?_ | with_reducible refine Lf.v_gnil ?_ | with_reducible refine Lf.v_gcons ?_ | with_reducible refine Lf.v_yes ?_ | with_reducible refine Lf.v_for ?_ | with_reducible refine Lf.v_lc ?_ | with_reducible refine Lf.v_rg ?_ | with_reducible refine Lf.v_iter ?_ | with_reducible refine Lf.v_iterT ?_ | with_reducible refine Lf.v_add ?_ | with_reducible refine Lf.v_sub ?_ | with_reducible refine Lf.v_neg ?_ | with_reducible refine Lf.v_lt ?_ | with_reducible refine Lf.v_le ?_ | with_reducible refine Lf.v_gt ?_ | with_reducible refine Lf.v_ge ?_ | with_reducible refine Lf.v_eqI ?_ | with_reducible refine Lf.v_neI ?_ | with_reducible refine Lf.v_abs ?_ | with_reducible refine Lf.v_intI ?_ | with_reducible refine Lf.v_intB ?_ | with_reducible refine Lf.v_max2 ?_ | with_reducible refine Lf.v_min2 ?_ | with_reducible refine Lf.v_lenT ?_ | with_reducible refine Lf.v_lenN ?_ | with_reducible refine Lf.v_nw ?_ | with_reducible refine Lf.v_un ?_ | with_reducible refine Lf.v_tup ?_ | with_reducible refine Lf.v_lst ?_ | with_reducible refine Lf.v_par2 ?_ | with_reducible refine Lf.v_par3 ?_ | with_reducible refine Lf.v_chain ?_ | with_reducible refine Lf.v_meth ?_ | with_reducible refine Lf.v_subT ?_ | with_reducible refine Lf.v_isiIB ?_ | with_reducible refine Lf.v_isiII ?_ | with_reducible refine Lf.v_sl ?_ | with_reducible refine Lf.v_noP ?_ | with_reducible refine Lf.v_pt ?_ | with_reducible refine Lf.v_cutT ?_ | ((with_reducible apply Lf.v_var); exact rfl) | ((with_reducible refine Lf.v_kw ?_ ?_); exact rfl) | ((with_reducible apply Lf.v_iterO); first | exact rfl | assumption) | ((with_reducible apply Lf.v_lenL); first | exact rfl | assumption) | ((with_reducible refine Lf.v_unp ?_ ?_); exact rfl) | ((with_reducible apply Lf.v_aug); exact rfl) | ((with_reducible refine Lf.v_mod ?_ ?_); first | decide | omega | assumption | fail) | ((with_reducible refine Lf.v_div ?_ ?_); first | exact ⟨by decide, by decide +kernel⟩ | assumption | exact Lf.log2d (by omega) ⟨by omega, by omega⟩ | fail) | ((with_reducible refine Lf.v_mul ?_ ?_); first | exact Lf.log2m ⟨by omega, by omega⟩ ⟨by omega, by omega⟩ | exact Lf.log2m (by assumption) ⟨by omega, by omega⟩ | exact Lf.log2m ⟨by omega, by omega⟩ (by assumption) | fail) | ((with_reducible refine Lf.v_pow ?_ ?_); exact ⟨by decide, by decide, by decide⟩) | ((with_reducible refine Lf.v_rg1 ?_ ?_); first | decide | fail) | ((with_reducible apply Lf.v_ixL); (first | exact rfl | assumption | fail); (first | exact rfl | assumption | fail)) | ((with_reducible apply Lf.v_ixT); (first | exact rfl | assumption | fail)) | ((with_reducible apply Lf.v_ixN); (first | exact rfl | assumption | fail)) | with_reducible refine ⟨_, rfl, ?_⟩ | (refine ⟨_, (rfl : Lf.tru _ (Lf.U.bl _) = some _), ?_⟩) | with_reducible refine ⟨_, _, rfl, ?_⟩ | with_reducible refine ⟨_, _, _, rfl, ?_⟩ | (refine ⟨(Nat.le_of_ble_eq_true rfl : List.length _ ≤ 16777216), ?_⟩) | with_reducible refine Lf.v_enum ?_ | fail))
theorem afA_ok {g : List U → M U} (hg : g = gDef 6 afA) {p n : Int} {ws : List Str} {x : U} {rs : List Int} {v : Int} (hx : OpOk p n ws x) (hp : 2 ≤ p) (hp2 : p < 1000000) (hn : (rs.length : Int) = n) (hr : ∀ r ∈ rs, 0 ≤ r ∧ r < p) {T : Sto} {Q : U → Sto → Prop} (q : Q (.tup ((aft p x rs v).map .int)) T) :
    Wp (kdG .pur 4 g [.int p, x, .tup (rs.map .int), .int v] T) Q := by
  subst hg
  have rd : ∀ a : Int, 0 ≤ a → a < n → 0 ≤ rs.getD a.toNat 0 ∧ rs.getD a.toNat 0 < p := fun a h0 h1 => by
    have h : a.toNat < rs.length := by omega
    have e : rs.getD a.toNat 0 = rs[a.toNat] := by simp [h]
    rw [e]
    exact hr _ (List.getElem_mem h)
  have hnr : nr x = true := by
    rcases hx with ⟨w, a, c, rfl, _⟩ | ⟨w, a, rfl, _⟩ | ⟨a, b, c, rfl, _⟩ | ⟨w, a, b, rfl, _⟩ <;> rfl
  refine purK rfl ?_ (gDef_wp ?_)
  · show (true && (nr x && (nrs (rs.map .int) && true))) = true
    rw [hnr, nrs_ints]; rfl
  unfold afA
  refine seq_wp (v_par2 (v_cons (v_call (v_cons (v_var rfl (v_nil (v_list (xs := rs.map .int) rfl ?_)))))))
  rcases hx with ⟨w, a, c, rfl, hw, a0, a1, c0, c1, _⟩ | ⟨w, a, rfl, hw, a0, a1, _⟩ | ⟨a, b, c, rfl, a0, a1, b0, b1, _, c0, c1, _⟩ | ⟨w, a, b, rfl, hw, a0, a1, b0, b1, _⟩
  · rcases hw with rfl | rfl
    · rfl'
      refine v_eqS (by decide +kernel) (by decide +kernel) ?_
      rfl'
      refine v_yesd rfl ?_
      rfl'
      refine ⟨_, setIt_regs rfl a0 (by omega), ?_⟩
      rfl'
      refine v_tuple (xs := (rs.set a.toNat c).map .int) rfl ?_
      rfl'
      exact kP_tup (nrs_ints _) q
    · have r0 := rd a a0 a1
      rfl'
      refine v_eqS (by decide +kernel) (by decide +kernel) ?_
      rfl'
      refine v_nod (by decide +kernel) ?_
      rfl'
      refine v_eqS (by decide +kernel) (by decide +kernel) ?_
      rfl'
      refine v_nod (by decide +kernel) ?_
      rfl'
      refine v_eqS (by decide +kernel) (by decide +kernel) ?_
      rfl'
      refine v_nod (by decide +kernel) ?_
      rfl'
      refine v_eqS (by decide +kernel) (by decide +kernel) ?_
      rfl'
      refine v_yesd rfl ?_
      rfl'
      refine v_ixT (atI_regs a0 (by omega)) ?_
      rfl'
      refine ⟨_, setIt_regs rfl a0 (by omega), ?_⟩
      rfl'
      refine v_tuple rfl ?_
      rfl'
      exact kP_tup (nrs_ints _) q
  · rcases hw with rfl | rfl
    · rfl'
      refine v_eqS (by decide +kernel) (by decide +kernel) ?_
      rfl'
      refine v_nod (by decide +kernel) ?_
      rfl'
      refine v_eqS (by decide +kernel) (by decide +kernel) ?_
      rfl'
      refine v_nod (by decide +kernel) ?_
      rfl'
      refine v_eqS (by decide +kernel) (by decide +kernel) ?_
      rfl'
      refine v_nod (by decide +kernel) ?_
      rfl'
      refine v_eqS (by decide +kernel) (by decide +kernel) ?_
      rfl'
      refine v_nod (by decide +kernel) ?_
      rfl'
      refine v_eqS (by decide +kernel) (by decide +kernel) ?_
      rfl'
      refine v_nod (by decide +kernel) ?_
      rfl'
      refine v_eqS (by decide +kernel) (by decide +kernel) ?_
      rfl'
      refine v_yesd rfl ?_
      rfl'
      refine ⟨_, setIt_regs rfl a0 (by omega), ?_⟩
      rfl'
      refine v_tuple rfl ?_
      rfl'
      exact kP_tup (nrs_ints _) q
    · rfl'
      refine v_eqS (by decide +kernel) (by decide +kernel) ?_
      rfl'
      refine v_nod (by decide +kernel) ?_
      rfl'
      refine v_eqS (by decide +kernel) (by decide +kernel) ?_
      rfl'
      refine v_nod (by decide +kernel) ?_
      rfl'
      refine v_eqS (by decide +kernel) (by decide +kernel) ?_
      rfl'
      refine v_nod (by decide +kernel) ?_
      rfl'
      refine v_eqS (by decide +kernel) (by decide +kernel) ?_
      rfl'
      refine v_nod (by decide +kernel) ?_
      rfl'
      refine v_eqS (by decide +kernel) (by decide +kernel) ?_
      rfl'
      refine v_nod (by decide +kernel) ?_
      rfl'
      refine v_eqS (by decide +kernel) (by decide +kernel) ?_
      rfl'
      refine v_nod (by decide +kernel) ?_
      rfl'
      refine v_tuple rfl ?_
      rfl'
      exact kP_tup (nrs_ints _) q
  · have r0 := rd a a0 a1
    have r1 := rd b b0 b1
    rfl'
    refine v_eqS (by decide +kernel) (by decide +kernel) ?_
    rfl'
    refine v_nod (by decide +kernel) ?_
    rfl'
    refine v_eqS (by decide +kernel) (by decide +kernel) ?_
    rfl'
    refine v_nod (by decide +kernel) ?_
    rfl'
    refine v_eqS (by decide +kernel) (by decide +kernel) ?_
    rfl'
    refine v_yesd rfl ?_
    rfl'
    refine v_ixT (atI_regs a0 (by omega)) ?_
    rfl'
    refine v_ixT (atI_regs b0 (by omega)) ?_
    rfl'
    refine ⟨_, setIt_regs rfl a0 (by omega), ?_⟩
    rfl'
    refine v_tuple rfl ?_
    rfl'
    exact kP_tup (nrs_ints _) q
  · rcases hw with rfl | rfl
    · rfl'
      refine v_eqS (by decide +kernel) (by decide +kernel) ?_
      rfl'
      refine v_nod (by decide +kernel) ?_
      rfl'
      refine v_eqS (by decide +kernel) (by decide +kernel) ?_
      rfl'
      refine v_yesd rfl ?_
      rfl'
      refine v_ixT (atI_regs b0 (by omega)) ?_
      rfl'
      refine ⟨_, setIt_regs rfl a0 (by omega), ?_⟩
      rfl'
      refine v_tuple rfl ?_
      rfl'
      exact kP_tup (nrs_ints _) q
    · rfl'
      refine v_eqS (by decide +kernel) (by decide +kernel) ?_
      rfl'
      refine v_nod (by decide +kernel) ?_
      rfl'
      refine v_eqS (by decide +kernel) (by decide +kernel) ?_
      rfl'
      refine v_nod (by decide +kernel) ?_
      rfl'
      refine v_eqS (by decide +kernel) (by decide +kernel) ?_
      rfl'
      refine v_nod (by decide +kernel) ?_
      rfl'
      refine v_eqS (by decide +kernel) (by decide +kernel) ?_
      rfl'
      refine v_nod (by decide +kernel) ?_
      rfl'
      refine v_eqS (by decide +kernel) (by decide +kernel) ?_
      rfl'
      refine v_yesd rfl ?_
      rfl'
      refine v_ixT (atI_regs b0 (by omega)) ?_
      rfl'
      refine v_ixT (atI_regs a0 (by omega)) ?_
      rfl'
      refine ⟨_, setIt_regs rfl a0 (by omega), ?_⟩
      rfl'
      refine ⟨_, setIt_regs rfl b0 (by rw [List.length_set]; omega), ?_⟩
      rfl'
      refine v_tuple rfl ?_
      rfl'
      exact kP_tup (nrs_ints _) q
end Lf


set_option Elab.async false
set_option linter.all false
set_option maxRecDepth 100000
set_option maxHeartbeats 4000000
/-! ## run, for programs that neither read nor write -/
namespace Lf
open PySem PySem.Spec L2
def rnA (sc ex af : List U → M U) : FxS :=
  fSeq (fIf (fBl (fBin gGt (fCall (kdG .pur 1 sc) (fCons (fVar 1) (fNil))) (fC (.int 20000)))) (fNo) (fSkip)) (fSeq (fPar3 4 5 6 (fCons (fVar 2) (fCons (fLst (fNil)) (fCons (fCall gList (fCons (fVar 3) (fNil))) (fNil))))) (fSeq (fDrop (fMeth isL gReverse (fVar 6) fNil)) (fSeq (fFor (fIter (fCall (kdG .pur 1 ex) (fCons (fVar 1) (fNil)))) (gNm 7) (fSeq (fIf (fBl (fBin (gEq false) (fBin gIx (fVar 7) (fC (.int 0))) (fC (.str "write")))) (fDrop (fMeth isL gAppend (fVar 5) (fCons (fBin gIx (fVar 4) (fBin gIx (fVar 7) (fC (.int 1)))) (fNil)))) (fSkip)) (fSet 4 (fCall (kdG .pur 4 af) (fCons (fVar 0) (fCons (fVar 7) (fCons (fVar 4) (fCons (fIfE (fBl (fBin (gEq false) (fBin gIx (fVar 7) (fC (.int 0))) (fC (.str "read")))) (fMeth isL gPop (fVar 6) fNil) (fC (.int 0))) (fNil))))))))) (fRet (fTup (fCons (fVar 4) (fCons (fCall gTuple (fCons (fVar 5) (fNil))) (fNil))))))))
/-- the registers after these steps -/
def runs (p : Int) (xs : List U) (rs : List Int) : List Int := xs.foldl (fun rs x => aft p x rs 0) rs
theorem runs_app (p : Int) (xs ys : List U) (rs : List Int) : runs p (xs ++ ys) rs = runs p ys (runs p xs rs) := List.foldl_append
theorem aft_len (p : Int) (x : U) (rs : List Int) (v : Int) : (aft p x rs v).length = rs.length := by
  unfold aft
  repeat' split
  all_goals simp
def InP (p : Int) (rs : List Int) : Prop := ∀ r ∈ rs, 0 ≤ r ∧ r < p
theorem InP.get {p : Int} (hp : 2 ≤ p) {rs : List Int} (h : InP p rs) (i : Nat) : 0 ≤ rs.getD i 0 ∧ rs.getD i 0 < p := by
  by_cases hi : i < rs.length
  · have e : rs.getD i 0 = rs[i] := by simp [hi]
    rw [e]
    exact h _ (List.getElem_mem hi)
  · have e : rs.getD i 0 = 0 := by simp [Nat.le_of_not_lt hi]
    rw [e]
    omega
theorem InP.set {p : Int} {rs : List Int} (h : InP p rs) {i : Nat} {v : Int} (hv : 0 ≤ v ∧ v < p) : InP p (rs.set i v) := fun r hr => by
  rcases List.mem_or_eq_of_mem_set hr with hr | rfl
  · exact h r hr
  · exact hv
theorem aft_in {p n : Int} {ws : List Str} {x : U} {rs : List Int} {v : Int} (hx : OpOk p n ws x) (hp : 2 ≤ p) (h : InP p rs) (hv : 0 ≤ v ∧ v < p) : InP p (aft p x rs v) := by
  have g := h.get hp
  have m : ∀ z : Int, 0 ≤ z % p ∧ z % p < p := fun z => emod_bd (by omega)
  rcases hx with ⟨w, a, c, rfl, hw, a0, a1, c0, c1, _⟩ | ⟨w, a, rfl, hw, a0, a1, _⟩ | ⟨a, b, c, rfl, a0, a1, b0, b1, _, c0, c1, _⟩ | ⟨w, a, b, rfl, hw, a0, a1, b0, b1, _⟩
  · unfold aft
    simp only []
    split
    · exact h.set ⟨c0, c1⟩
    · split
      · exact h.set (g _)
      · split
        · exact h.set (m _)
        · exact (h.set (g _)).set (g _)
  · unfold aft
    simp only []
    split
    · exact h.set hv
    · exact h
  · unfold aft
    exact h.set (m _)
  · unfold aft
    simp only []
    split
    · rename_i e
      rcases hw with rfl | rfl <;> exact absurd e (by decide +kernel)
    · split
      · exact h.set (g _)
      · split
        · exact h.set (m _)
        · exact (h.set (g _)).set (g _)
end Lf


set_option Elab.async false
set_option linter.all false
set_option maxRecDepth 100000
set_option maxHeartbeats 4000000
namespace Lf
open PySem PySem.Spec L2
theorem v_rvs {k : Nat} {xs : List U} {T : Sto} {Q : U → Sto → Prop} (e : T[k]? = some (.lst xs)) (q : Q .non (T.set k (.lst xs.reverse))) : Wp (gReverse (.ob k) [] T) Q := by
  unfold gReverse; simp only [e]; exact .ok q
/-- neither read nor write -/
def Quiet (p n : Int) (ws : List Str) (x : U) : Prop := OpOk p n ws x ∧ ∃ w r, x = .tup (.str w :: r) ∧ w ≠ "read" ∧ w ≠ "write"
local macro_rules | `(tactic| rfl') => `(tactic| repeat (first | with_reducible refine Lf.kS_nx ?_ | with_reducible refine Lf.kS_rt ?_ | with_reducible refine Lf.kS_bk ?_ | with_reducible refine Lf.kS_ct ?_ | with_reducible refine Lf.kD_rt ?_ | with_reducible refine Lf.kD_nx ?_ | with_reducible refine Lf.kF_nx ?_ | with_reducible refine Lf.kF_ct ?_ | with_reducible refine Lf.kF_bk ?_ | with_reducible refine Lf.kF_rt ?_ | with_reducible refine Lf.v_ifT ?_ | with_reducible refine Lf.v_ifF ?_ | with_reducible refine Lf.v_ifNT ?_ | with_reducible refine Lf.v_ifNF ?_ | with_reducible refine Lf.kP_int ?_ | with_reducible refine Lf.kP_bl ?_ | with_reducible refine Lf.kP_str ?_ | with_reducible refine Lf.kP_non ?_ | with_reducible refine Lf.v_iadd ?_ | with_reducible refine Lf.Wp.ok ?_ | with_reducible refine Lf.seq_wp ?_ | with_reducible refine Lf.v_bin ?_ | with_reducible refine Lf.v_cons ?_ | with_reducible refine Lf.v_call ?_ | with_reducible refine Lf.v_ret ?_ | with_reducible refine Lf.v_set ?_ | with_reducible refine Lf.v_asg ?_ | with_reducible refine Lf.v_if ?_ | with_reducible refine Lf.v_ifE ?_ | with_reducible refine Lf.v_bl ?_ | with_reducible refine Lf.v_tru ?_ | with_reducible refine Lf.v_and ?_ | with_reducible refine Lf.v_or ?_ | with_reducible refine Lf.v_not ?_ | with_reducible refine Lf.v_andV ?_ | with_reducible refine Lf.v_orV ?_ | with_reducible refine Lf.v_notV ?_ | with_reducible refine Lf.v_c ?_ | with_reducible refine Lf.v_nil ?_ | with_reducible refine Lf.v_skip ?_ | with_reducible refine Lf.v_drop ?_ | with_reducible refine Lf.v_retN ?_ | with_reducible refine Lf.v_brk ?_ | with_reducible refine Lf.v_cnt ?_ | with_reducible refine Lf.v_nm ?_ | with_reducible refine Lf.v_gnil ?_ | with_reducible refine Lf.v_gcons ?_ | with_reducible refine Lf.v_yes ?_ | with_reducible refine Lf.v_for ?_ | with_reducible refine Lf.v_lc ?_ | with_reducible refine Lf.v_rg ?_ | with_reducible refine Lf.v_iter ?_ | with_reducible refine Lf.v_iterT ?_ | with_reducible refine Lf.v_add ?_ | with_reducible refine Lf.v_sub ?_ | with_reducible refine Lf.v_neg ?_ | with_reducible refine Lf.v_lt ?_ | with_reducible refine Lf.v_le ?_ | with_reducible refine Lf.v_gt ?_ | with_reducible refine Lf.v_ge ?_ | with_reducible refine Lf.v_eqI ?_ | with_reducible refine Lf.v_neI ?_ | with_reducible refine Lf.v_abs ?_ | with_reducible refine Lf.v_intI ?_ | with_reducible refine Lf.v_intB ?_ | with_reducible refine Lf.v_max2 ?_ | with_reducible refine Lf.v_min2 ?_ | with_reducible refine Lf.v_lenT ?_ | with_reducible refine Lf.v_lenN ?_ | with_reducible refine Lf.v_nw ?_ | with_reducible refine Lf.v_un ?_ | with_reducible refine Lf.v_tup ?_ | with_reducible refine Lf.v_lst ?_ | with_reducible refine Lf.v_par2 ?_ | with_reducible refine Lf.v_par3 ?_ | with_reducible refine Lf.v_chain ?_ | with_reducible refine Lf.v_meth ?_ | with_reducible refine Lf.v_subT ?_ | with_reducible refine Lf.v_isiIB ?_ | with_reducible refine Lf.v_isiII ?_ | with_reducible refine Lf.v_sl ?_ | with_reducible refine Lf.v_noP ?_ | with_reducible refine Lf.v_pt ?_ | with_reducible refine Lf.v_cutT ?_ | ((with_reducible apply Lf.v_var); exact rfl) | ((with_reducible refine Lf.v_kw ?_ ?_); exact rfl) | ((with_reducible apply Lf.v_iterO); first | exact rfl | assumption) | ((with_reducible apply Lf.v_lenL); first | exact rfl | assumption) | ((with_reducible refine Lf.v_unp ?_ ?_); exact rfl) | ((with_reducible apply Lf.v_aug); exact rfl) | ((with_reducible refine Lf.v_mod ?_ ?_); first | decide | omega | assumption | fail) | ((with_reducible refine Lf.v_div ?_ ?_); first | exact ⟨by decide, by decide +kernel⟩ | assumption | exact Lf.log2d (by omega) ⟨by omega, by omega⟩ | fail) | ((with_reducible refine Lf.v_mul ?_ ?_); first | exact Lf.log2m ⟨by omega, by omega⟩ ⟨by omega, by omega⟩ | exact Lf.log2m (by assumption) ⟨by omega, by omega⟩ | exact Lf.log2m ⟨by omega, by omega⟩ (by assumption) | fail) | ((with_reducible refine Lf.v_pow ?_ ?_); exact ⟨by decide, by decide, by decide⟩) | ((with_reducible refine Lf.v_rg1 ?_ ?_); first | decide | fail) | ((with_reducible apply Lf.v_ixL); (first | exact rfl | assumption | fail); (first | exact rfl | assumption | fail)) | ((with_reducible apply Lf.v_ixT); (first | exact rfl | assumption | fail)) | ((with_reducible apply Lf.v_ixN); (first | exact rfl | assumption | fail)) | with_reducible refine ⟨_, rfl, ?_⟩ | (refine ⟨_, (rfl : Lf.tru _ (Lf.U.bl _) = some _), ?_⟩) | with_reducible refine ⟨_, _, rfl, ?_⟩ | with_reducible refine ⟨_, _, _, rfl, ?_⟩ | (refine ⟨(Nat.le_of_ble_eq_true rfl : List.length _ ≤ 16777216), ?_⟩) | with_reducible refine Lf.v_enum ?_ | fail))
theorem rnA_ok {g sc af : List U → M U} {gt ge : Nat → List U → M U} {m m2 : Nat} (hg : g = gDef 8 (rnA sc (ge m2) af)) (hs : sc = gDef 1 (scA (gt m))) (ht : ∀ m, gt (m + 1) = gDef 4 (tmA (gt m))) (he : ∀ m, ge (m + 1) = gDef 4 (exA (ge m))) (ha : af = gDef 6 afA)
    {L : Nat} (hL : L ≤ 1000) {d : Nat} {xs : List U} (hd : d < m) (hd3 : d < m2) (hd2 : d ≤ 6) (h : Pn Op Rd L d xs) (hp : Ps 20000 d xs) {p n : Int} {ws : List Str} (p1 : 2 ≤ p) (p2 : p < 1000000) (hop : ∀ x ∈ flt d xs, Quiet p n ws x)
    {rs : List Int} (hn : (rs.length : Int) = n) (hr : InP p rs) {T : Sto} {Q : U → Sto → Prop} (q : Q (.tup [.tup ((runs p (flt d xs) rs).map .int), .tup []]) T) :
    Wp (kdG .pur 4 g [.int p, .tup xs, .tup (rs.map .int), .tup []] T) Q := by
  subst hg
  obtain ⟨f1, f2, f3⟩ := Ps.flt hp
  have htot := hp.tot
  refine purK rfl ?_ (gDef_wp ?_)
  · show (true && (nrs xs && (nrs (rs.map .int) && true))) = true
    rw [f3, nrs_ints]; rfl
  unfold rnA
  rfl'
  refine scA_ok hs ht hL hd hd2 h ?_
  rfl'
  refine v_nod (by omega) ?_
  rfl'
  refine v_list (xs := []) rfl ?_
  rfl'
  refine ⟨rfl, ?_⟩
  rfl'
  refine v_rvs (xs := []) rfl ?_
  rfl'
  refine exA_ok he (N := 20000) (by decide) d m2 xs hd3 hp _ _ ?_
  refine v_iterO (xs := flt d xs) rfl ?_
  refine wp_forL (fun i η T => (∃ o7, η = [some (.int p), some (.tup xs), some (.tup (rs.map .int)), some (.tup []), some (.tup ((runs p ((flt d xs).take i) rs).map .int)), some (.ob 0), some (.ob 1), o7]) ∧ T = [.lst [], .lst [], .lst (flt d xs)]) ⟨⟨_, rfl⟩, rfl⟩ (fun i η T ⟨_, e⟩ => by subst e; rfl) (fun i x η T hx ⟨⟨o7, e⟩, eT⟩ => ?_) (fun η T ⟨⟨o7, e⟩, eT⟩ => ?_)
  · subst e eT
    obtain ⟨ho, w, r, rfl, w1, w2⟩ := hop x (List.mem_of_getElem? hx)
    have hw7 : w ∈ words7 := by
      obtain ⟨w', is, e, hw, _⟩ := f2 _ (List.mem_of_getElem? hx)
      cases e
      exact hw
    have rin : ∀ l : List U, (∀ y ∈ l, y ∈ flt d xs) → ∀ rs : List Int, (rs.length : Int) = n → InP p rs → ((runs p l rs).length : Int) = n ∧ InP p (runs p l rs) := by
      intro l
      induction l with
      | nil => intro _ rs h1 h2; exact ⟨h1, h2⟩
      | cons y l ih =>
        intro hl rs h1 h2
        exact ih (fun z hz => hl z (List.mem_cons_of_mem _ hz)) _ (by rw [aft_len]; exact h1) (aft_in (hop y (hl y (List.mem_cons_self ..))).1 p1 h2 ⟨by omega, by omega⟩)
    obtain ⟨l1, l2⟩ := rin ((flt d xs).take i) (fun y hy => List.mem_of_mem_take hy) rs hn hr
    have tk : (flt d xs).take (i + 1) = (flt d xs).take i ++ [U.tup (U.str w :: r)] := by
      rw [List.take_succ, hx]; rfl
    rfl'
    refine v_ix0 ?_
    rfl'
    refine v_eqS (words7_ok w hw7) (by decide +kernel) ?_
    rfl'
    refine v_nod w2 ?_
    rfl'
    refine v_ix0 ?_
    rfl'
    refine v_eqS (words7_ok w hw7) (by decide +kernel) ?_
    rfl'
    refine v_nod w1 ?_
    rfl'
    refine afA_ok ha ho p1 p2 l1 l2 ?_
    rfl'
    exact ⟨⟨_, by rw [tk, runs_app]; rfl⟩, rfl⟩
  · subst e eT
    rw [List.take_length]
    rfl'
    refine v_tuple (xs := []) rfl ?_
    rfl'
    refine kP_tup ?_ q
    show (nrs ((runs p (flt d xs) rs).map .int) && (true && true)) = true
    rw [nrs_ints]; rfl
end Lf


set_option Elab.async false
set_option linter.all false
set_option maxRecDepth 100000
set_option maxHeartbeats 4000000
/-! ## more stepping rules (the mark Z), equal values, prime, tuple -/
namespace Lf
open PySem PySem.Spec L2
section
variable {T : Sto} {Q : U → Sto → Prop}
theorem v_eqS0 {x y : Str} (q : Q (.bl (decide (x = y))) T) : Wp (gEq false (.str x) (.str y) T) Q := .ok q
theorem isl_at {k : Nat} {xs : List U} (h : T[k]? = some (.lst xs)) : isL T (.ob k) = true := by unfold isL; simp only [h]
theorem isl_and {k : Nat} {xs : List U} {P : Prop} (h : T[k]? = some (.lst xs)) (q : P) : isL T (.ob k) = true ∧ P := ⟨isl_at h, q⟩
theorem v_appZ {k : Nat} {xs : List U} {u : U} (e : T[k]? = some (.lst xs)) (hl : xs.length < 16777216) (q : Q .non (T.set k (.lst (xs ++ [u])))) : Wp (gAppend (.ob k) [u] T) Q := v_app e ⟨hl, q⟩
theorem v_tupleL {k : Nat} {xs : List U} (e : T[k]? = some (.lst xs)) (q : Q (.tup xs) T) : Wp (gTuple [.ob k] T) Q := v_tuple (by unfold seqU; simp only [e]) q
theorem v_tupleT {xs : List U} (q : Q (.tup xs) T) : Wp (gTuple [.tup xs] T) Q := .ok q
theorem v_listL {k : Nat} {xs : List U} (e : T[k]? = some (.lst xs)) (q : Q (.ob T.length) (T ++ [.lst xs])) : Wp (gList [.ob k] T) Q := v_list (by unfold seqU; simp only [e]) q
theorem v_listT {xs : List U} (q : Q (.ob T.length) (T ++ [.lst xs])) : Wp (gList [.tup xs] T) Q := .ok q
theorem dats_ints {f : U → Option PyData} (hf : ∀ i, f (.int i) = some (.int i)) : ∀ ns : List Int, dats f (ns.map .int) = some (ns.map .int)
  | [] => rfl
  | n :: ns => by
    rw [List.map_cons]
    unfold dats
    rw [hf, dats_ints hf ns]
    rfl
theorem dat_int {n : Nat} (i : Int) : dat T n (.int i) = some (.int i) := by cases n <;> rfl
theorem dat_str {n : Nat} (i : Str) : dat T n (.str i) = some (.str i) := by cases n <;> rfl
theorem dat_ints {n : Nat} (ns : List Int) : dat T (n + 1) (.tup (ns.map .int)) = some (.tuple (ns.map .int)) := by
  show (dats (dat T n) (ns.map .int)).map PyData.tuple = _
  rw [dats_ints (fun i => dat_int i)]
  rfl
theorem dat_tup {n : Nat} {xs : List U} {ds : List PyData} (h : dats (dat T n) xs = some ds) : dat T (n + 1) (.tup xs) = some (.tuple ds) := by
  show (dats (dat T n) xs).map PyData.tuple = _
  rw [h]; rfl
theorem dats_nil {f : U → Option PyData} : dats f [] = some [] := rfl
theorem dats_cons {f : U → Option PyData} {x : U} {xs : List U} {d : PyData} {ds : List PyData} (h : f x = some d) (h2 : dats f xs = some ds) : dats f (x :: xs) = some (d :: ds) := by
  unfold dats; rw [h, h2]
theorem layInts : ∀ ns : List Int, PyData.canLayAll0 (ns.map .int) = true
  | [] => rfl
  | n :: ns => by rw [List.map_cons]; simp [PyData.canLayAll0, PyData.canLay0, layInts ns]
theorem depInts : ∀ ns : List Int, PyData.depthAll (ns.map .int) = 0
  | [] => rfl
  | n :: ns => by rw [List.map_cons]; simp [PyData.depthAll, PyData.depth, depInts ns]
theorem shapedT (ns : List Int) : SeqAt.shaped (.tuple (ns.map .int)) = true := by
  simp [SeqAt.shaped, PyData.canLay0, PyData.depth, layInts, depInts]
/-- a value that can be compared -/
def Lay (T : Sto) (u : U) : Prop := ∃ d, dat T 66 u = some d ∧ SeqAt.shaped d = true
theorem lay_ints (ns : List Int) : Lay T (.tup (ns.map .int)) := ⟨_, dat_ints ns, shapedT ns⟩
theorem lay_run (ns ms : List Int) : Lay T (.tup [.tup (ns.map .int), .tup (ms.map .int)]) := by
  refine ⟨.tuple [.tuple (ns.map .int), .tuple (ms.map .int)], dat_tup (dats_cons (dat_ints ns) (dats_cons (dat_ints ms) dats_nil)), ?_⟩
  simp [SeqAt.shaped, PyData.canLay0, PyData.canLayAll0, PyData.depth, PyData.depthAll, layInts, depInts]
theorem v_eqR {u : U} (h : Lay T u) (q : Q (.bl true) T) : Wp (gEq false u u T) Q := by
  obtain ⟨d, h1, h2⟩ := h
  refine v_eqD h1 h1 h2 h2 ?_
  rw [SeqAt.eqv_refl _ (shaped_at h2).1]
  exact q
theorem v_neR {u : U} (h : Lay T u) (q : Q (.bl false) T) : Wp (gEq true u u T) Q := by
  obtain ⟨d, h1, h2⟩ := h
  refine v_neD h1 h1 h2 h2 ?_
  rw [SeqAt.eqv_refl _ (shaped_at h2).1]
  exact q
theorem intsU_map : ∀ ns : List Int, intsU (ns.map .int) = some ns
  | [] => rfl
  | n :: ns => by
    show Option.map (fun x => n :: x) (intsU (ns.map .int)) = some (n :: ns)
    rw [intsU_map ns]; rfl
theorem blsU_map : ∀ ns : List Bool, blsU (ns.map .bl) = some ns
  | [] => rfl
  | n :: ns => by
    show Option.map (fun x => n :: x) (blsU (ns.map .bl)) = some (n :: ns)
    rw [blsU_map ns]; rfl
theorem v_allM {k : Nat} {bs : List Bool} (e : T[k]? = some (.lst (bs.map .bl))) (q : Q (.bl (bs.all id)) T) : Wp (gAll [.ob k] T) Q := v_all e (blsU_map bs) q
theorem v_anyM {k : Nat} {bs : List Bool} (e : T[k]? = some (.lst (bs.map .bl))) (q : Q (.bl (bs.any id)) T) : Wp (gAny [.ob k] T) Q := v_any e (blsU_map bs) q
theorem v_sumM {k : Nat} {bs : List Int} (e : T[k]? = some (.lst (bs.map .int))) (q : Q (.int bs.sum) T) : Wp (gSum [.ob k] T) Q := v_sum e (intsU_map bs) q
theorem v_maxM {k : Nat} {n : Int} {ns : List Int} (e : T[k]? = some (.lst ((n :: ns).map .int))) (q : Q (.int (maxI n ns)) T) : Wp (gMaxL [.ob k] T) Q := v_maxL e (intsU_map _) q
end
/-- how an urn function is called -/
theorem urnW {n : Nat} {g : List U → M U} {i : Nat} {r : List U} {T : Sto} {Q : U → Sto → Prop} (R : U → Prop) (hn : r.length + 1 = n) (hr : nrs r = true) (a : ∃ o, T[i]? = some o ∧ Urn o)
    (h : ∀ o, Urn o → Wp (g (.ob 0 :: r) [o]) fun u T' => (∃ o', T'[0]? = some o' ∧ Urn o') ∧ nr u = true ∧ R u) (q : ∀ u T', R u → Ext i T T' → T'.length = T.length → Q u T') : Wp (kdG .urn n g (.ob i :: r) T) Q := by
  obtain ⟨o, ht, u⟩ := a
  refine urn_wp hn hr ht u.nr ((h o u).mono ?_)
  rintro v T' ⟨⟨o', e, u'⟩, h1, h2⟩
  match T', e with
  | z :: l, e =>
    cases e
    exact ⟨_, _, rfl, u'.nr, h1, q _ _ h2 (.set (lt_at ht) u') (List.length_set ..)⟩
theorem urn0 {o : O} (u : Urn o) : ∃ o', ([o] : Sto)[0]? = some o' ∧ Urn o' := ⟨o, rfl, u⟩
/-! _law_prime -/
def primes : List Int := [2, 2, 3, 3, 5, 7, 7, 11, 13, 97, 251, 9973, 10007]
theorem primes_bd : ∀ p ∈ primes, 2 ≤ p ∧ p < 1000000 := by decide
def prA (of_ : List U → M U) : FxS := fRet (fCall (kdG .len 2 of_) (fCons (fVar 0) (fCons (fLst (fCons (fC (.int 2)) (fCons (fC (.int 2)) (fCons (fC (.int 3)) (fCons (fC (.int 3)) (fCons (fC (.int 5)) (fCons (fC (.int 7)) (fCons (fC (.int 7)) (fCons (fC (.int 11)) (fCons (fC (.int 13)) (fCons (fC (.int 97)) (fCons (fC (.int 251)) (fCons (fC (.int 9973)) (fCons (fC (.int 10007)) (fNil))))))))))))))) (fNil))))
local macro_rules | `(tactic| rfl') => `(tactic| repeat (first | with_reducible refine Lf.kS_nx ?_ | with_reducible refine Lf.kS_rt ?_ | with_reducible refine Lf.kS_bk ?_ | with_reducible refine Lf.kS_ct ?_ | with_reducible refine Lf.kD_rt ?_ | with_reducible refine Lf.kD_nx ?_ | with_reducible refine Lf.kF_nx ?_ | with_reducible refine Lf.kF_ct ?_ | with_reducible refine Lf.kF_bk ?_ | with_reducible refine Lf.kF_rt ?_ | with_reducible refine Lf.v_ifT ?_ | with_reducible refine Lf.v_ifF ?_ | with_reducible refine Lf.v_ifNT ?_ | with_reducible refine Lf.v_ifNF ?_ | with_reducible refine Lf.kP_int ?_ | with_reducible refine Lf.kP_bl ?_ | with_reducible refine Lf.kP_str ?_ | with_reducible refine Lf.kP_non ?_ | with_reducible refine Lf.v_iadd ?_ | with_reducible refine Lf.Wp.ok ?_ | with_reducible refine Lf.seq_wp ?_ | with_reducible refine Lf.v_bin ?_ | with_reducible refine Lf.v_cons ?_ | with_reducible refine Lf.v_call ?_ | with_reducible refine Lf.v_ret ?_ | with_reducible refine Lf.v_set ?_ | with_reducible refine Lf.v_asg ?_ | with_reducible refine Lf.v_if ?_ | with_reducible refine Lf.v_ifE ?_ | with_reducible refine Lf.v_bl ?_ | with_reducible refine Lf.v_tru ?_ | with_reducible refine Lf.v_and ?_ | with_reducible refine Lf.v_or ?_ | with_reducible refine Lf.v_not ?_ | with_reducible refine Lf.v_andV ?_ | with_reducible refine Lf.v_orV ?_ | with_reducible refine Lf.v_notV ?_ | with_reducible refine Lf.v_c ?_ | with_reducible refine Lf.v_nil ?_ | with_reducible refine Lf.v_skip ?_ | with_reducible refine Lf.v_drop ?_ | with_reducible refine Lf.v_retN ?_ | with_reducible refine Lf.v_brk ?_ | with_reducible refine Lf.v_cnt ?_ | with_reducible refine Lf.v_nm ?_ | with_reducible refine Lf.v_gnil ?_ | with_reducible refine Lf.v_gcons ?_ | with_reducible refine Lf.v_yes ?_ | with_reducible refine Lf.v_for ?_ | with_reducible refine Lf.v_lc ?_ | with_reducible refine Lf.v_rg ?_ | with_reducible refine Lf.v_iter ?_ | with_reducible refine Lf.v_iterT ?_ | with_reducible refine Lf.v_add ?_ | with_reducible refine Lf.v_sub ?_ | with_reducible refine Lf.v_neg ?_ | with_reducible refine Lf.v_lt ?_ | with_reducible refine Lf.v_le ?_ | with_reducible refine Lf.v_gt ?_ | with_reducible refine Lf.v_ge ?_ | with_reducible refine Lf.v_eqI ?_ | with_reducible refine Lf.v_neI ?_ | with_reducible refine Lf.v_abs ?_ | with_reducible refine Lf.v_intI ?_ | with_reducible refine Lf.v_intB ?_ | with_reducible refine Lf.v_max2 ?_ | with_reducible refine Lf.v_min2 ?_ | with_reducible refine Lf.v_lenT ?_ | with_reducible refine Lf.v_lenN ?_ | with_reducible refine Lf.v_nw ?_ | with_reducible refine Lf.v_un ?_ | with_reducible refine Lf.v_tup ?_ | with_reducible refine Lf.v_lst ?_ | with_reducible refine Lf.v_par2 ?_ | with_reducible refine Lf.v_par3 ?_ | with_reducible refine Lf.v_chain ?_ | with_reducible refine Lf.v_meth ?_ | with_reducible refine Lf.v_subT ?_ | with_reducible refine Lf.v_isiIB ?_ | with_reducible refine Lf.v_isiII ?_ | with_reducible refine Lf.v_sl ?_ | with_reducible refine Lf.v_noP ?_ | with_reducible refine Lf.v_pt ?_ | with_reducible refine Lf.v_cutT ?_ | ((with_reducible apply Lf.v_var); exact rfl) | ((with_reducible refine Lf.v_kw ?_ ?_); exact rfl) | ((with_reducible apply Lf.v_iterO); first | exact rfl | assumption) | ((with_reducible apply Lf.v_lenL); first | exact rfl | assumption) | ((with_reducible refine Lf.v_unp ?_ ?_); exact rfl) | ((with_reducible apply Lf.v_aug); exact rfl) | ((with_reducible refine Lf.v_mod ?_ ?_); first | decide | omega | assumption | fail) | ((with_reducible refine Lf.v_div ?_ ?_); first | exact ⟨by decide, by decide +kernel⟩ | assumption | exact Lf.log2d (by omega) ⟨by omega, by omega⟩ | fail) | ((with_reducible refine Lf.v_mul ?_ ?_); first | exact Lf.log2m ⟨by omega, by omega⟩ ⟨by omega, by omega⟩ | exact Lf.log2m (by assumption) ⟨by omega, by omega⟩ | exact Lf.log2m ⟨by omega, by omega⟩ (by assumption) | fail) | ((with_reducible refine Lf.v_pow ?_ ?_); exact ⟨by decide, by decide, by decide⟩) | ((with_reducible refine Lf.v_rg1 ?_ ?_); first | decide | fail) | ((with_reducible apply Lf.v_ixL); (first | exact rfl | assumption | fail); (first | exact rfl | assumption | fail)) | ((with_reducible apply Lf.v_ixT); (first | exact rfl | assumption | fail)) | ((with_reducible apply Lf.v_ixN); (first | exact rfl | assumption | fail)) | with_reducible refine ⟨_, rfl, ?_⟩ | (refine ⟨_, (rfl : Lf.tru _ (Lf.U.bl _) = some _), ?_⟩) | with_reducible refine ⟨_, _, rfl, ?_⟩ | with_reducible refine ⟨_, _, _, rfl, ?_⟩ | (refine ⟨(Nat.le_of_ble_eq_true rfl : List.length _ ≤ 16777216), ?_⟩) | with_reducible refine Lf.v_enum ?_ | fail))
theorem prA_ok {tk of_ g : List U → M U} (h1 : tk = gDef 4 tkA) (h2 : of_ = gDef 2 (ofA tk)) (h3 : g = gDef 1 (prA of_)) {T : Sto} {i : Nat} {Q : U → Sto → Prop} (a : ∃ o, T[i]? = some o ∧ Urn o) (q : ∀ p T', p ∈ primes → Ext i T T' → T'.length = T.length → Q (.int p) T') : Wp (kdG .urn 1 g [.ob i] T) Q := by
  refine urnW (r := []) (fun u => ∃ p, u = .int p ∧ p ∈ primes) rfl rfl a (fun o u => ?_) (fun u T' ⟨p, e, hp⟩ e1 e2 => by subst e; exact q p T' hp e1 e2)
  subst h3
  refine gDef_wp ?_
  unfold prA
  rfl'
  refine ofA_ok h1 h2 rfl u rfl (Nat.zero_ne_one) (List.cons_ne_nil _ _) (by decide) fun x o' hx u' => ?_
  have : x ∈ primes.map U.int := hx
  obtain ⟨p, hp, rfl⟩ := List.mem_map.mp this
  rfl'
  exact ⟨⟨o', rfl, u'⟩, rfl, p, rfl, hp⟩
/-! _law_tuple -/
def tpA (tk of_ : List U → M U) : FxS := fRet (fCall gTuple (fCons (fLc [3] (fRg gRg1 (fCons (fVar 2) (fNil))) (gNm 3) (fYes) (fCall (kdG .len 2 of_) (fCons (fVar 0) (fCons (fLst (fCons (fC (.int 0)) (fCons (fC (.int 1)) (fCons (fBin gSub (fVar 1) (fC (.int 1))) (fCons (fCall (kdG .urn 2 tk) (fCons (fVar 0) (fCons (fVar 1) (fNil)))) (fCons (fCall (kdG .urn 2 tk) (fCons (fVar 0) (fCons (fVar 1) (fNil)))) (fNil))))))) (fNil))))) (fNil)))
theorem tpA_ok {tk of_ g : List U → M U} (h1 : tk = gDef 4 tkA) (h2 : of_ = gDef 2 (ofA tk)) (h3 : g = gDef 4 (tpA tk of_)) {T : Sto} {i : Nat} {p n : Int} {Q : U → Sto → Prop} (a : ∃ o, T[i]? = some o ∧ Urn o) (p1 : 2 ≤ p) (p2 : p < 1000000) (n1 : 0 ≤ n) (n2 : n < 1000000)
    (q : ∀ (rs : List Int) T', (rs.length : Int) = n → InP p rs → Ext i T T' → T'.length = T.length → Q (.tup (rs.map .int)) T') : Wp (kdG .urn 3 g [.ob i, .int p, .int n] T) Q := by
  refine urnW (r := [.int p, .int n]) (fun u => ∃ rs : List Int, u = .tup (rs.map .int) ∧ (rs.length : Int) = n ∧ InP p rs) rfl rfl a (fun o u => ?_) (fun u T' ⟨rs, e, h1, h2⟩ e1 e2 => by subst e; exact q rs T' h1 h2 e1 e2)
  subst h3
  refine gDef_wp ?_
  unfold tpA
  rfl'
  refine v_rg1 (small62_of (by omega) (by omega)) ?_
  refine wp_lcC (fun r acc T => (∃ o', T[0]? = some o' ∧ Urn o') ∧ ∃ rs : List Int, acc = rs.map .int ∧ ((rs.length + r.length : Nat) : Int) = n ∧ InP p rs) ⟨urn0 u, [], rfl, by rw [rgU_len]; simp; omega, fun _ h => (nomatch h)⟩ (fun x r acc T ⟨hu, rs, ea, hl, hi⟩ => ?_) (fun acc T ⟨hu, rs, ea, hl, hi⟩ => ?_)
  · subst ea
    rw [List.length_cons] at hl
    rfl'
    refine takeE h1 hu (by omega) ⟨by omega, by omega⟩ fun x1 T1 a0 a1 e1 _ => ?_
    rfl'
    refine takeE h1 e1.urn (by omega) ⟨by omega, by omega⟩ fun x2 T2 b0 b1 e2 _ => ?_
    rfl'
    obtain ⟨o3, ho3, u3⟩ := e2.urn
    have e4 : Ext 0 T2 (T2 ++ [O.lst [U.int 0, U.int 1, U.int (p - 1), U.int x1, U.int x2]]) := .add ho3 u3
    refine ofE (xs := [U.int 0, U.int 1, U.int (p - 1), U.int x1, U.int x2]) h1 h2 e4.urn (by simp) (Nat.ne_of_lt (lt_at ho3)) (List.cons_ne_nil _ _) (Nat.le_of_ble_eq_true rfl) fun y T4 hy e5 _ => ?_
    have hy : ∃ z, y = .int z ∧ 0 ≤ z ∧ z < p := by
      simp only [List.mem_cons, List.not_mem_nil, or_false] at hy
      rcases hy with rfl | rfl | rfl | rfl | rfl
      · exact ⟨_, rfl, by omega, by omega⟩
      · exact ⟨_, rfl, by omega, by omega⟩
      · exact ⟨_, rfl, by omega, by omega⟩
      · exact ⟨_, rfl, a0, a1⟩
      · exact ⟨_, rfl, b0, b1⟩
    obtain ⟨z, rfl, z0, z1⟩ := hy
    refine ⟨by rw [List.length_map]; omega, e5.urn, rs ++ [z], by simp, by simp; omega, fun y hy => ?_⟩
    rcases List.mem_append.mp hy with hy | hy
    · exact hi y hy
    · rw [List.mem_singleton.mp hy]; exact ⟨z0, z1⟩
  · subst ea
    rfl'
    refine v_tupleL (xs := rs.map .int) (by simp) ?_
    rfl'
    refine ⟨?_, nrs_ints rs, rs, rfl, by simpa using hl, hi⟩
    obtain ⟨o', e, u'⟩ := hu
    exact ⟨o', by rw [List.getElem?_append_left (lt_at e)]; exact e, u'⟩
end Lf


set_option Elab.async false
set_option linter.all false
set_option maxRecDepth 100000
set_option maxHeartbeats 4000000
/-! ## more of drawn programs and flat lists -/
namespace Lf
open PySem PySem.Spec L2
theorem Pn.map {A A' : U → Prop} {R R' : Int → Prop} {L L' : Nat} (hA : ∀ x, A x → A' x) (hR : ∀ k, R k → R' k) (hL : L ≤ L') : ∀ {d : Nat} {xs : List U}, Pn A R L d xs → Pn A' R' L' d xs
  | 0, xs, h => ⟨Nat.le_trans h.1 hL, fun x hx => hA x (h.2 x hx)⟩
  | d + 1, xs, h => ⟨Nat.le_trans h.1 hL, fun x hx => by
      rcases h.2 x hx with h | ⟨k, b, e, hr, hb⟩
      · exact .inl (hA x h)
      · exact .inr ⟨k, b, e, hR k hr, Pn.map hA hR hL hb⟩⟩
theorem flt_all {A : U → Prop} {R : Int → Prop} {L : Nat} (hA : ∀ x, A x → Op x) : ∀ {d : Nat} {xs : List U}, Pn A R L d xs → ∀ x ∈ flt d xs, A x := by
  intro d
  induction d with
  | zero => intro xs h; exact h.2
  | succ d ih =>
    intro xs h x hx
    obtain ⟨y, hy, hx⟩ := List.mem_flatMap.mp hx
    rcases h.2 y hy with ho | ⟨k, b, rfl, hk, hb⟩
    · rw [(hA y ho).no] at hx
      rw [List.mem_singleton.mp hx]
      exact ho
    · rw [lpOf_lpU] at hx
      obtain ⟨l, hl, hx⟩ := List.mem_flatten.mp hx
      rw [(List.mem_replicate.mp hl).2] at hx
      exact ih hb x hx
/-- an item of a drawn program -/
def PrI (A : U → Prop) (R : Int → Prop) (d : Nat) (l : Int) (x : U) : Prop := A x ∨ ∃ d' k b, d = d' + 1 ∧ x = lpU k b ∧ R k ∧ Pr A R d' (l / 2) b
theorem Pr.item {A : U → Prop} {R : Int → Prop} {d : Nat} {l : Int} {xs : List U} {x : U} (h : Pr A R d l xs) (hx : x ∈ xs) : PrI A R d l x := by
  cases d with
  | zero => exact .inl (h.2 x hx)
  | succ d =>
    rcases h.2 x hx with h | ⟨k, b, h1, h2, h3⟩
    · exact .inl h
    · exact .inr ⟨d, k, b, rfl, h1, h2, h3⟩
theorem Pr.mk {A : U → Prop} {R : Int → Prop} {d : Nat} {l : Int} {xs : List U} (hl : (xs.length : Int) ≤ l) (h : ∀ x ∈ xs, PrI A R d l x) : Pr A R d l xs := by
  cases d with
  | zero => exact ⟨hl, fun x hx => by
      rcases h x hx with h | ⟨d', k, b, e, _⟩
      · exact h
      · cases e⟩
  | succ d => exact ⟨hl, fun x hx => by
      rcases h x hx with h | ⟨d', k, b, e, h1, h2, h3⟩
      · exact .inl h
      · cases e
        exact .inr ⟨k, b, h1, h2, h3⟩⟩
theorem Pr.nrs {A : U → Prop} {R : Int → Prop} (hA : ∀ x, A x → Op x) : ∀ {d : Nat} {l : Int} {xs : List U}, Pr A R d l xs → Lf.nrs xs = true
  | 0, _, _, h => nrs_of fun x hx => nr_op (hA x (h.2 x hx))
  | d + 1, _, _, h => nrs_of fun x hx => by
    rcases h.2 x hx with h | ⟨k, b, rfl, _, hb⟩
    · exact nr_op (hA x h)
    · exact nrs_lp (Pr.nrs hA hb)
theorem Ps.app {N : Int} {d : Nat} {xs ys : List U} (h1 : Ps N (d + 1) xs) (h2 : Ps N (d + 1) ys) (h : stp (d + 1) xs + stp (d + 1) ys ≤ N) : Ps N (d + 1) (xs ++ ys) := by
  refine ⟨?_, fun x hx => ?_⟩
  · show cnt _ _ _ ≤ _
    rw [cnt_app]
    exact h
  · rcases List.mem_append.mp hx with hx | hx
    · exact h1.2 x hx
    · exact h2.2 x hx
theorem Ps.loop {N : Int} {d : Nat} {xs : List U} {k : Int} (h : Ps N d xs) (k0 : 0 ≤ k) (k1 : k ≤ 1000000) (hs : k * stp d xs ≤ N) : Ps N (d + 1) [lpU k xs] := by
  refine ⟨?_, fun x hx => ?_⟩
  · show cnt _ _ _ ≤ _
    rw [cnt_one, cn1_lp]
    exact hs
  · rw [List.mem_singleton.mp hx]
    exact .inr ⟨k, xs, rfl, k0, k1, h⟩
theorem flt_up {A : U → Prop} {R : Int → Prop} {L : Nat} (hA : ∀ x, A x → Op x) : ∀ {d : Nat} {xs : List U}, Pn A R L d xs → flt (d + 1) xs = flt d xs := by
  intro d
  induction d with
  | zero =>
    intro xs h
    have : ∀ xs : List U, (∀ x ∈ xs, A x) → flt 1 xs = xs := by
      intro xs
      induction xs with
      | nil => intro _; rfl
      | cons x xs ih => intro h; rw [flt_cons, flt_op (hA x (h x (List.mem_cons_self ..))), ih fun y hy => h y (List.mem_cons_of_mem _ hy)]; rfl
    exact this xs h.2
  | succ d ih =>
    intro xs h
    have : ∀ xs : List U, (∀ x ∈ xs, A x ∨ ∃ k b, x = lpU k b ∧ R k ∧ Pn A R L d b) → flt (d + 2) xs = flt (d + 1) xs := by
      intro xs
      induction xs with
      | nil => intro _; rfl
      | cons x xs ihx =>
        intro h
        rw [flt_cons, flt_cons (d + 1), ihx fun y hy => h y (List.mem_cons_of_mem _ hy)]
        congr 1
        rcases h x (List.mem_cons_self ..) with ho | ⟨k, b, rfl, _, hb⟩
        · rw [flt_op (hA x ho), flt_op (hA x ho)]
        · rw [flt_lp, flt_lp, ih hb]
    exact this xs h.2
theorem flt_two {d : Nat} {k m : Int} {xs : List U} (hk : 0 ≤ k) (hm : 0 ≤ m) : flt (d + 1) [lpU (k + m) xs] = flt (d + 1) [lpU k xs, lpU m xs] := by
  rw [flt_cons (d + 1) (lpU k xs), flt_lp, flt_lp, flt_lp, Int.toNat_add hk hm, ← List.replicate_append_replicate, List.flatten_append]
theorem rep_mul {α : Type} (l : List α) (m : Nat) : ∀ k : Nat, (List.replicate k (List.replicate m l).flatten).flatten = (List.replicate (k * m) l).flatten
  | 0 => by simp
  | k + 1 => by rw [List.replicate_succ, List.flatten_cons, rep_mul l m k, Nat.succ_mul, Nat.add_comm (k * m) m, ← List.replicate_append_replicate, List.flatten_append]
theorem flt_mul {d : Nat} {k m : Int} {xs : List U} (hk : 0 ≤ k) (hm : 0 ≤ m) : flt (d + 2) [lpU k [lpU m xs]] = flt (d + 1) [lpU (k * m) xs] := by
  rw [flt_lp, flt_lp, flt_lp, rep_mul, Int.toNat_mul hk hm]
end Lf


set_option Elab.async false
set_option linter.all false
set_option maxRecDepth 100000
set_option maxHeartbeats 4000000
/-! ## divmod, enumerate of a list, range with a step -1 -/
namespace Lf
open PySem PySem.Spec L2
def gDivmod : List U → M U := fun us T => match us with
  | [.int i, .int j] => if 0 < j ∧ j.natAbs.log2 < 9000 then .ok (.tup [.int (i / j), .int (i % j)]) T else .no
  | _ => .no
section
variable {X : Cx} {E : XK}
open PyProof.Rows in
theorem call_divmodW : CallR X (.builtin "divmod") (fun xs H Q => ∃ i j, xs = [.int i, .int j] ∧ (0 < j ∧ j.natAbs.log2 < 9000) ∧ ∀ p, H p = none → Q (.ref p) (upd H p (.tup [.int (i / j), .int (i % j)]))) := by
  intro pins s σ H xs us Q I r h
  obtain ⟨i, j, rfl, hj, q⟩ := h
  obtain ⟨u, w', rfl, ⟨t, rfl⟩, ⟨t', rfl⟩⟩ := vals2 r
  have j0 : (0 : Int) < j := hj.1
  refine divmod_int (by omega) ?_ (.inl (PyProof.noPylong_of_log2 hj.2))
  rw [Int.fmod_eq_emod_of_nonneg i (by omega), Int.fdiv_eq_ediv_of_nonneg i (by omega)]
  have new : H s.heap.objs.size = none := I.hok.fresh (Nat.le_refl _)
  have I2 := I.laid (t' := s.toks + 2) (o := HO.tup [V.int (i / j), V.int (i % j)]) (h' := s.heap.push { cls := .type "tuple", data := .seq #[.int (i / j) s.toks, .int (i % j) (s.toks + 1)] }) (fun b o e => Heap.get?_push_of_some _ e) (Nat.le_refl _)
    ⟨by rw [sizeLine_eq]; exact Nat.le_of_ble_eq_true rfl, [.int (i / j) s.toks, .int (i % j) (s.toks + 1)], .cons ⟨_, rfl⟩ (.cons ⟨_, rfl⟩ .nil), ⟨_, Heap.get?_push_size s.heap rfl, rfl, 0, rfl⟩⟩
  exact ⟨.ref s.heap.objs.size, _, I2, rfl, q _ new⟩
theorem fcl_divmod : FCall X E (.builtin "divmod") gDivmod := by
  refine ⟨_, call_divmodW, fun ρ H T us xs Q s r h => ?_⟩
  unfold gDivmod at h
  split at h
  · rename_i i j
    split at h
    · rename_i hj
      match r with
      | .cons (.int _) (.cons (.int _) .nil) => exact ⟨i, j, rfl, hj, fun p n => okTup s h (.cons (.int _) (.cons (.int _) .nil)) n⟩
    · exact False.elim h
  · exact False.elim h
/-! enumerate -/
def enumI (xs : List U) : List U := (List.range xs.length).map fun i => .tup [.int (i : Nat), xs.getD i .non]
def enumO (k n : Nat) : ItF := ⟨(List.range n).map fun i T => (lstAt T k n).bind fun xs => (xs[i]?).map fun u => .tup [.int (i : Nat), u], fun T => (lstAt T k n).isSome⟩
def gEnum : List U → M ItF := fun us T => match us with
  | [.ob k] => match T[k]? with
    | some (.lst xs) => .ok (enumO k xs.length) T
    | _ => .no
  | _ => .no
def fEnumerate (Fr : FxA) : FxI := fun η T => (Fr η T).bind fun us T1 => gEnum us T1
theorem range_at {n i j : Nat} (h : (List.range n)[i]? = some j) : j = i := by
  have := (List.getElem?_eq_some_iff.mp h).2
  simpa using this.symm
theorem itOk_enumO {K : PySem.W.Frag} {ρ : List Addr} {H : Hp} {a : Addr} {k n : Nat} (e : ρ[k]? = some a) : ItOk K ρ H (enumO k n) (Ite K a) where
  go := fun i f ρ' H' T' u ef g s h => by
    have ef : ((List.range n).map fun (i : Nat) (T : Sto) => (lstAt T k n).bind fun xs => (xs[i]?).map fun u => U.tup [.int (i : Nat), u])[i]? = some f := ef
    rw [List.getElem?_map] at ef
    obtain ⟨j, q, rfl⟩ := Option.map_eq_some_iff.mp ef
    obtain rfl := range_at q
    obtain ⟨ys, h1, h2⟩ := Option.bind_eq_some_iff.mp h
    obtain ⟨z, h3, _⟩ := Option.map_eq_some_iff.mp h2
    obtain ⟨h4, _⟩ := lstAt_some h1
    obtain ⟨b, p, vs, f1, rs⟩ := s.get h4
    rw [g.pre k a e] at p
    cases p
    obtain ⟨v, h5, _⟩ := rs.get h3
    exact ⟨vs, v, SqL.of f1, h5⟩
  yl := fun i f ρ' H' T' u x H'' ef g s h y => by
    have ef : ((List.range n).map fun (i : Nat) (T : Sto) => (lstAt T k n).bind fun xs => (xs[i]?).map fun u => U.tup [.int (i : Nat), u])[i]? = some f := ef
    rw [List.getElem?_map] at ef
    obtain ⟨j, q, rfl⟩ := Option.map_eq_some_iff.mp ef
    obtain rfl := range_at q
    obtain ⟨ys, h1, h2⟩ := Option.bind_eq_some_iff.mp h
    obtain ⟨z, h3, h6⟩ := Option.map_eq_some_iff.mp h2
    subst h6
    obtain ⟨h4, _⟩ := lstAt_some h1
    obtain ⟨b, p, vs, f1, rs⟩ := s.get h4
    rw [g.pre k a e] at p
    cases p
    obtain ⟨v, h5, h7⟩ := rs.get h3
    obtain ⟨D, x0, rfl, nD, rfl, hy⟩ := y
    have := hy vs (SqL.of f1)
    rw [h5] at this
    cases this
    have g2 : Gr K ρ' H' ρ' (upd H' D (.tup [.int (j : Nat), v])) := Gr.fill nD
    exact ⟨g2, s.fill nD, .tup (SqT.of upd_same) ((RVs.cons (.int _) (.cons h7 .nil)).gr g2)⟩
  st := fun ρ' H' T' g s h => by
    have h : (lstAt T' k n).isSome = true := h
    obtain ⟨ys, h1⟩ := Option.isSome_iff_exists.mp h
    obtain ⟨h3, h4⟩ := lstAt_some h1
    obtain ⟨b, p, vs, f1, rs⟩ := s.get h3
    rw [g.pre k a e] at p
    cases p
    exact ⟨vs, SqL.of f1, by rw [← rs.length, h4]; simp [enumO]⟩
theorem fi_enumerate {e : Expr} {Fr : FxA} {p pos tpos : Pos} {elts : List Expr} {kk : Nat} (hg : Gl X "enumerate") (hm : X.mg "enumerate" = none) (ha : FA X E [e] Fr) (hs : starEach [e] X.env = [(false, eval e X.env)] := by rfl) :
    FI X E (.Tuple elts kk tpos) (.Call (.Name "enumerate" p) [e] [] pos) (fEnumerate Fr) := by
  obtain ⟨t, k, q⟩ := ha
  refine ⟨_, pi_enum hg hm k hs, fun σ H ρ T η R s r h => ?_⟩
  refine q σ H ρ T η _ s r (OK.mono (OK.bind h) fun vs H1 ⟨ρ1, T1, us, g1, s1, r1, k1⟩ => ?_)
  unfold gEnum at k1
  split at k1
  · rename_i j
    split at k1
    · rename_i xs e
      match r1 with
      | .cons (.ob ea) .nil =>
        obtain ⟨b, p, vs, f1, rs⟩ := s1.get e
        rw [ea] at p
        cases p
        exact ⟨_, vs, rfl, SqL.of f1, k1 _ _ _ Gr.refl s1 (itOk_enumO ea)⟩
    · exact False.elim k1
  · exact False.elim k1
/-! range(i, j, -1) -/
def dnU (hi : Int) (n : Nat) : List U := (List.range n).map fun i => .int (hi + (i : Nat) * (-1))
def gRg3 : List U → M ItF := fun us T => match us with
  | [.int i, .int j, .int c] => if (c = -1 ∧ small62 i = true ∧ small62 j = true) then .ok (constI (dnU i (i - j).toNat)) T else .no
  | _ => .no
theorem itOk_dn {K : PySem.W.Frag} {ρ : List Addr} {H : Hp} {hi : Int} {n : Nat} : ItOk K ρ H (constI (dnU hi n)) (Itc hi (-1) n) := by
  have hl : (dnU hi n).length = n := by simp [dnU]
  refine itOk_const (fun i H' h _ => by rw [hl] at h; exact h) (fun H' _ => by rw [hl]; exact Nat.le_refl _) (fun i u ρ' H' y H'' e g yy => ?_)
  obtain ⟨e1, rfl⟩ := yy
  refine ⟨e1, ?_⟩
  unfold dnU at e
  rw [List.getElem?_map] at e
  obtain ⟨j, q, rfl⟩ := Option.map_eq_some_iff.mp e
  obtain rfl := range_at q
  exact .int _
theorem fi_range3 {tg a b c : Expr} {Fr : FxA} {p pos : Pos} (hg : Gl X "range") (hm : X.mg "range" = none) (ha : FA X E [a, b, c] Fr)
    (hs : starEach [a, b, c] X.env = (false, eval a X.env) :: starEach [b, c] X.env := by rfl) (hpl : (backTo pos (starEach [b, c] X.env)).any (·.1) = false := by rfl) : FI X E tg (.Call (.Name "range" p) [a, b, c] [] pos) (fRg gRg3 Fr) := by
  obtain ⟨t, k, q⟩ := ha
  refine ⟨_, pi_range3 hg hm k hs hpl, fun σ H ρ T η R s r h => ?_⟩
  refine q σ H ρ T η _ s r (OK.mono (OK.bind h) fun vs H1 ⟨ρ1, T1, us, g1, s1, r1, k1⟩ => ?_)
  unfold gRg3 at k1
  split at k1
  · rename_i i j c
    split at k1
    · rename_i hc
      obtain ⟨rfl, h1, h2⟩ := hc
      have h1 := small62_iff h1
      have h2 := small62_iff h2
      match r1 with
      | .cons (.int _) (.cons (.int _) (.cons (.int _) .nil)) => exact ⟨i, j, -1, (i - j).toNat, rfl, RgC.neg h1.1 h1.2 h2.1 h2.2, k1 _ _ _ Gr.refl s1 itOk_dn⟩
    · exact False.elim k1
  · exact False.elim k1
end
/-! stepping -/
section
variable {T : Sto} {Q : U → Sto → Prop} {η : Lo} {Fr : FxA} {QI : ItF → Sto → Prop}
theorem v_divmod {i j : Int} (e : 0 < j ∧ j.natAbs.log2 < 9000) (q : Q (.tup [.int (i / j), .int (i % j)]) T) : Wp (gDivmod [.int i, .int j] T) Q := by
  unfold gDivmod; simp only [e, and_self, if_true]; exact .ok q
theorem v_enum (q : Wp (Fr η T) fun us T1 => Wp (gEnum us T1) QI) : Wp (fEnumerate Fr η T) QI := .bind q
theorem v_enumL {k : Nat} {xs : List U} (e : T[k]? = some (.lst xs)) (q : QI (enumO k xs.length) T) : Wp (gEnum [.ob k] T) QI := by
  unfold gEnum; simp only [e]; exact .ok q
theorem v_rg3 {i j : Int} (e1 : small62 i = true) (e2 : small62 j = true) (q : QI (constI (dnU i (i - j).toNat)) T) : Wp (gRg3 [.int i, .int j, .int (-1)] T) QI := by
  unfold gRg3; simp only [e1, e2, and_self, if_true]; exact .ok q
end
/-- a loop over enumerate of a list in the store that the body leaves as it is -/
theorem wp_forEG {G : U → Lo → M Lo} {Fb : FxS} (k : Nat) (xs : List U) (I : Nat → Lo → Sto → Prop) {Q : Fl × Lo → Sto → Prop}
    (hk : ∀ i η T, I i η T → T[k]? = some (.lst xs))
    (step : ∀ i x η T, xs[i]? = some x → I i η T → Wp (G (.tup [.int (i : Nat), x]) η T) fun η1 T1 => Wp (Fb η1 T1) (kF (I (i + 1)) Q))
    (hend : ∀ η T, I xs.length η T → Q (.nx, η) T) : ∀ n i η T, i + n = xs.length → I i η T → Wp (forN G Fb (fun T => (lstAt T k xs.length).isSome) ((List.range' i n).map fun i T => (lstAt T k xs.length).bind fun ys => (ys[i]?).map fun u => .tup [.int (i : Nat), u]) η T) Q
  | 0, i, η, T, e, h => by
    have : (lstAt T k xs.length) = some xs := by unfold lstAt; rw [hk i η T h]; simp
    show Wp (if (lstAt T k xs.length).isSome = true then .ok (.nx, η) T else .no) Q
    simp only [this, Option.isSome_some, if_true]
    have : i = xs.length := by omega
    exact .ok (hend _ _ (this ▸ h))
  | n + 1, i, η, T, e, h => by
    have hl : lstAt T k xs.length = some xs := by unfold lstAt; rw [hk i η T h]; simp
    have hi : i < xs.length := by omega
    rw [List.range'_succ, List.map_cons]
    unfold forN
    simp only [hl, Option.bind_some, List.getElem?_eq_getElem hi, Option.map_some]
    refine .bindE (step i xs[i] η T (List.getElem?_eq_getElem hi) h) fun η1 T1 h1 => .bindE h1 fun p T2 h2 => ?_
    obtain ⟨f, η2⟩ := p
    cases f with
    | nx => exact wp_forEG k xs I hk step hend n (i + 1) η2 T2 (by omega) h2
    | ct => exact wp_forEG k xs I hk step hend n (i + 1) η2 T2 (by omega) h2
    | bk => exact .ok h2
    | rt u => exact .ok h2
theorem wp_forE {G : U → Lo → M Lo} {Fb : FxS} {k : Nat} {xs : List U} (I : Nat → Lo → Sto → Prop) {Q : Fl × Lo → Sto → Prop} {η : Lo} {T : Sto} (h0 : I 0 η T)
    (hk : ∀ i η T, I i η T → T[k]? = some (.lst xs))
    (step : ∀ i x η T, xs[i]? = some x → I i η T → Wp (G (.tup [.int (i : Nat), x]) η T) fun η1 T1 => Wp (Fb η1 T1) (kF (I (i + 1)) Q))
    (hend : ∀ η T, I xs.length η T → Q (.nx, η) T) : Wp (forN G Fb (enumO k xs.length).fin (enumO k xs.length).its η T) Q := by
  unfold enumO
  rw [List.range_eq_range']
  exact wp_forEG k xs I hk step hend xs.length 0 η T (Nat.zero_add _) h0
end Lf


set_option Elab.async false
set_option linter.all false
set_option maxRecDepth 100000
set_option maxHeartbeats 4000000
/-! ## last assignments -/
namespace Lf
open PySem PySem.Spec L2
section
variable {T : Sto} {Q : U → Sto → Prop}
theorem v_isNN {neg : Bool} (q : Q (.bl (!neg)) T) : Wp (gIs neg .non .non T) Q := .ok q
theorem v_isIN {neg : Bool} {i : Int} (q : Q (.bl neg) T) : Wp (gIs neg (.int i) .non T) Q := .ok q
theorem eqV_int (a b : Int) : eqV (.int a) (.int b) = decide (a = b) := by
  show (a == b) = decide (a = b)
  by_cases h : a = b
  · subst h; simp
  · rw [decide_eq_false h]; exact beq_false_of_ne h
theorem v_inI2 {x a b : Int} (q : Q (.bl (decide (a = x) || decide (b = x))) T) : Wp (gIn false (.int x) (.tup [.int a, .int b]) T) Q := by
  refine ⟨_, T, rfl, ?_⟩
  have : (if false = true then !inV (.int x) [.int a, .int b] else inV (.int x) [.int a, .int b]) = (decide (a = x) || decide (b = x)) := by
    show (eqV (.int a) (.int x) || (eqV (.int b) (.int x) || false)) = _
    rw [eqV_int, eqV_int, Bool.or_false]
  rw [this]
  exact q
end
/-- does the instruction assign the register -/
def asgU (x : Int) : U → Bool
  | .tup [.str w, .int a] => decide (w ≠ "write") && decide (a = x)
  | .tup [.str w, .int a, .int c] => if w = "swap" then (decide (a = x) || decide (c = x)) else decide (a = x)
  | .tup [.str _, .int a, .int _, .int _] => decide (a = x)
  | _ => false
/-- the last place at which f holds -/
def lastIx (f : U → Bool) : List U → Option Nat
  | [] => none
  | x :: l => match lastIx f l with
    | some i => some (i + 1)
    | none => if f x = true then some 0 else none
def optU : Option Nat → U
  | none => .non
  | some i => .int (i : Nat)
def oAdd (n : Nat) (e : Option Nat) : Option Nat → Option Nat
  | some i => some (n + i)
  | none => e
theorem optU_some (i : Nat) : optU (some i) = .int (i : Nat) := rfl
theorem optU_none : optU none = .non := rfl
theorem lastIx_app (f : U → Bool) : ∀ a b : List U, lastIx f (a ++ b) = oAdd a.length (lastIx f a) (lastIx f b)
  | [], b => by
    show lastIx f b = _
    cases lastIx f b with
    | none => rfl
    | some i => simp [oAdd]
  | x :: a, b => by
    show (match lastIx f (a ++ b) with
      | some i => some (i + 1)
      | none => if f x = true then some 0 else none) = _
    rw [lastIx_app f a b]
    cases lastIx f b with
    | none => rfl
    | some i => simp only [oAdd, List.length_cons]; congr 1; omega
theorem lastIx_one (f : U → Bool) (x : U) : lastIx f [x] = if f x = true then some 0 else none := rfl
theorem rep_len' {α : Type} (k : Nat) (l : List α) : (List.replicate k l).flatten.length = k * l.length := by
  induction k with
  | zero => simp
  | succ k ih => rw [List.replicate_succ, List.flatten_cons, List.length_append, ih, Nat.succ_mul]; omega
theorem rep_s' {α : Type} (k : Nat) (l : List α) : (List.replicate (k + 1) l).flatten = (List.replicate k l).flatten ++ l := by
  rw [List.replicate_succ', List.flatten_append]; simp
theorem lastIx_rep0 (f : U → Bool) (B : List U) (h : lastIx f B = none) : ∀ r, lastIx f (List.replicate r B).flatten = none
  | 0 => rfl
  | r + 1 => by rw [rep_s', lastIx_app, h]; exact lastIx_rep0 f B h r
theorem lastIx_rep (f : U → Bool) (B : List U) (r : Nat) : lastIx f (List.replicate (r + 1) B).flatten = (lastIx f B).map (r * B.length + ·) := by
  rw [rep_s', lastIx_app]
  cases h : lastIx f B with
  | none => exact lastIx_rep0 f B h r
  | some i => rw [rep_len']; rfl
theorem rep_take {α : Type} (B : List α) (hB : 0 < B.length) : ∀ (k mo : Nat), mo ≤ k * B.length → (List.replicate k B).flatten.take mo = (List.replicate (mo / B.length) B).flatten ++ B.take (mo % B.length)
  | 0, mo, h => by
    have : mo = 0 := by omega
    subst this
    simp
  | k + 1, mo, h => by
    rw [List.replicate_succ, List.flatten_cons]
    by_cases hm : mo < B.length
    · rw [Nat.div_eq_of_lt hm, Nat.mod_eq_of_lt hm, List.take_append_of_le_length (by omega)]
      simp
    · have e1 : mo / B.length = (mo - B.length) / B.length + 1 := by rw [← Nat.add_div_right _ hB]; congr 1; omega
      have e2 : mo % B.length = (mo - B.length) % B.length := by
        rw [← Nat.add_mod_right (mo - B.length)]; congr 1; omega
      have h2 : mo - B.length ≤ k * B.length := by rw [Nat.succ_mul] at h; omega
      rw [e1, e2, List.replicate_succ, List.flatten_cons, List.append_assoc, ← rep_take B hB k _ h2, List.take_append]
      rw [List.take_of_length_le (by omega)]
theorem asgU_ne {w : Str} {a c r : Int} (h : w ≠ "swap") : asgU r (.tup [.str w, .int a, .int c]) = decide (a = r) := by
  show (if w = Str.ofString "swap" then (decide (a = r) || decide (c = r)) else decide (a = r)) = _
  rw [if_neg h]
def asA : FxS := fSeq (fIf (fBl (fBin (gEq false) (fBin gIx (fVar 0) (fC (.int 0))) (fC (.str "swap")))) (fRet (fBin (gIn false) (fVar 1) (fSl (fVar 0) (fPt (fC (.int 1))) fNoP))) (fSkip)) (fRet (fAndV (fBin (gEq true) (fBin gIx (fVar 0) (fC (.int 0))) (fC (.str "write"))) (fBin (gEq false) (fBin gIx (fVar 0) (fC (.int 1))) (fVar 1))))
local macro_rules | `(tactic| bv_omega) => `(tactic| repeat (first | with_reducible refine Lf.kS_nx ?_ | with_reducible refine Lf.kS_rt ?_ | with_reducible refine Lf.kS_bk ?_ | with_reducible refine Lf.kS_ct ?_ | with_reducible refine Lf.kD_rt ?_ | with_reducible refine Lf.kD_nx ?_ | with_reducible refine Lf.kF_nx ?_ | with_reducible refine Lf.kF_ct ?_ | with_reducible refine Lf.kF_bk ?_ | with_reducible refine Lf.kF_rt ?_ | with_reducible refine Lf.v_ifT ?_ | with_reducible refine Lf.v_ifF ?_ | with_reducible refine Lf.v_ifNT ?_ | with_reducible refine Lf.v_ifNF ?_ | with_reducible refine Lf.kP_int ?_ | with_reducible refine Lf.kP_bl ?_ | with_reducible refine Lf.kP_str ?_ | with_reducible refine Lf.kP_non ?_ | with_reducible refine Lf.v_iadd ?_ | with_reducible refine Lf.Wp.ok ?_ | with_reducible refine Lf.seq_wp ?_ | with_reducible refine Lf.v_bin ?_ | with_reducible refine Lf.v_cons ?_ | with_reducible refine Lf.v_call ?_ | with_reducible refine Lf.v_ret ?_ | with_reducible refine Lf.v_set ?_ | with_reducible refine Lf.v_asg ?_ | with_reducible refine Lf.v_if ?_ | with_reducible refine Lf.v_ifE ?_ | with_reducible refine Lf.v_bl ?_ | with_reducible refine Lf.v_tru ?_ | with_reducible refine Lf.v_and ?_ | with_reducible refine Lf.v_or ?_ | with_reducible refine Lf.v_not ?_ | with_reducible refine Lf.v_andV ?_ | with_reducible refine Lf.v_orV ?_ | with_reducible refine Lf.v_notV ?_ | with_reducible refine Lf.v_c ?_ | with_reducible refine Lf.v_nil ?_ | with_reducible refine Lf.v_skip ?_ | with_reducible refine Lf.v_drop ?_ | with_reducible refine Lf.v_retN ?_ | with_reducible refine Lf.v_brk ?_ | with_reducible refine Lf.v_cnt ?_ | with_reducible refine Lf.v_nm ?_ | with_reducible refine Lf.v_gnil ?_ | with_reducible refine Lf.v_gcons ?_ | with_reducible refine Lf.v_yes ?_ | with_reducible refine Lf.v_for ?_ | with_reducible refine Lf.v_lc ?_ | with_reducible refine Lf.v_rg ?_ | with_reducible refine Lf.v_iter ?_ | with_reducible refine Lf.v_iterT ?_ | with_reducible refine Lf.v_add ?_ | with_reducible refine Lf.v_sub ?_ | with_reducible refine Lf.v_neg ?_ | with_reducible refine Lf.v_lt ?_ | with_reducible refine Lf.v_le ?_ | with_reducible refine Lf.v_gt ?_ | with_reducible refine Lf.v_ge ?_ | with_reducible refine Lf.v_eqI ?_ | with_reducible refine Lf.v_neI ?_ | with_reducible refine Lf.v_abs ?_ | with_reducible refine Lf.v_intI ?_ | with_reducible refine Lf.v_intB ?_ | with_reducible refine Lf.v_max2 ?_ | with_reducible refine Lf.v_min2 ?_ | with_reducible refine Lf.v_lenT ?_ | with_reducible refine Lf.v_lenN ?_ | with_reducible refine Lf.v_nw ?_ | with_reducible refine Lf.v_un ?_ | with_reducible refine Lf.v_tup ?_ | with_reducible refine Lf.v_lst ?_ | with_reducible refine Lf.v_par2 ?_ | with_reducible refine Lf.v_par3 ?_ | with_reducible refine Lf.v_chain ?_ | with_reducible refine Lf.v_meth ?_ | with_reducible refine Lf.v_subT ?_ | with_reducible refine Lf.v_isiIB ?_ | with_reducible refine Lf.v_isiII ?_ | with_reducible refine Lf.v_sl ?_ | with_reducible refine Lf.v_noP ?_ | with_reducible refine Lf.v_pt ?_ | with_reducible refine Lf.v_cutT ?_ | ((with_reducible apply Lf.v_var); exact rfl) | ((with_reducible refine Lf.v_kw ?_ ?_); exact rfl) | ((with_reducible apply Lf.v_iterO); first | exact rfl | assumption) | ((with_reducible apply Lf.v_lenL); first | exact rfl | assumption) | ((with_reducible refine Lf.v_unp ?_ ?_); exact rfl) | ((with_reducible apply Lf.v_aug); exact rfl) | ((with_reducible refine Lf.v_mod ?_ ?_); first | decide | omega | assumption | fail) | ((with_reducible refine Lf.v_div ?_ ?_); first | exact ⟨by decide, by decide +kernel⟩ | assumption | exact Lf.log2d (by omega) ⟨by omega, by omega⟩ | fail) | ((with_reducible refine Lf.v_mul ?_ ?_); first | exact Lf.log2m ⟨by omega, by omega⟩ ⟨by omega, by omega⟩ | exact Lf.log2m (by assumption) ⟨by omega, by omega⟩ | exact Lf.log2m ⟨by omega, by omega⟩ (by assumption) | fail) | ((with_reducible refine Lf.v_pow ?_ ?_); exact ⟨by decide, by decide, by decide⟩) | ((with_reducible refine Lf.v_rg1 ?_ ?_); first | decide | fail) | ((with_reducible apply Lf.v_ixL); (first | exact rfl | assumption | fail); (first | exact rfl | assumption | fail)) | ((with_reducible apply Lf.v_ixT); (first | exact rfl | assumption | fail)) | ((with_reducible apply Lf.v_ixN); (first | exact rfl | assumption | fail)) | with_reducible refine ⟨_, rfl, ?_⟩ | (refine ⟨_, (rfl : Lf.tru _ (Lf.U.bl _) = some _), ?_⟩) | with_reducible refine ⟨_, _, rfl, ?_⟩ | with_reducible refine ⟨_, _, _, rfl, ?_⟩ | (refine ⟨(Nat.le_of_ble_eq_true rfl : List.length _ ≤ 16777216), ?_⟩) | with_reducible refine Lf.v_enum ?_ | with_reducible refine Lf.v_eqS0 ?_ | with_reducible refine Lf.v_neT ?_ | with_reducible refine Lf.v_ix0 ?_ | with_reducible refine Lf.v_tupleT ?_ | with_reducible refine Lf.v_listT ?_ | with_reducible refine Lf.v_revT ?_ | with_reducible refine Lf.v_dic0 ?_ | with_reducible refine Lf.v_dic1 ?_ | ((with_reducible apply Lf.isl_and); (first | exact rfl | assumption | fail)) | ((with_reducible apply Lf.v_appZ); (first | exact rfl | assumption | fail); (first | omega | (simp only [List.length_append, List.length_map, List.length_cons, List.length_nil]; omega) | (simp; omega) | fail)) | ((with_reducible apply Lf.v_tupleL); (first | exact rfl | assumption | fail)) | ((with_reducible apply Lf.v_listL); (first | exact rfl | assumption | fail)) | ((with_reducible refine Lf.v_yesd ?_ ?_); (first | (with_reducible rfl) | assumption | (exact fun z => z rfl) | decide +kernel | omega | fail)) | ((with_reducible refine Lf.v_nod ?_ ?_); (first | (with_reducible rfl) | assumption | (exact fun z => z rfl) | decide +kernel | omega | fail)) | ((with_reducible refine Lf.v_yesn ?_ ?_); (first | (with_reducible rfl) | assumption | (exact fun z => z rfl) | decide +kernel | omega | fail)) | ((with_reducible refine Lf.v_non ?_ ?_); (first | (with_reducible rfl) | assumption | (exact fun z => z rfl) | decide +kernel | omega | fail)) | ((with_reducible refine Lf.kP_tup ?_ ?_); first | exact rfl | exact Lf.nrs_ints _ | assumption | fail) | ((with_reducible refine Lf.v_rg1 ?_ ?_); exact Lf.small62_of (by omega) (by omega)) | fail))
theorem asA_ok {g : List U → M U} (hg : g = gDef 2 asA) {p n : Int} {ws : List Str} {x : U} (hx : OpOk p n ws x) {r : Int} {T : Sto} {Q : U → Sto → Prop} (q : Q (.bl (asgU r x)) T) : Wp (kdG .pur 2 g [x, .int r] T) Q := by
  subst hg
  have hnr : nr x = true := by
    rcases hx with ⟨w, a, c, rfl, _⟩ | ⟨w, a, rfl, _⟩ | ⟨a, b, c, rfl, _⟩ | ⟨w, a, b, rfl, _⟩ <;> rfl
  refine purK rfl ?_ (gDef_wp ?_)
  · show (nr x && (true && true)) = true
    rw [hnr]; rfl
  unfold asA
  rcases hx with ⟨w, a, c, rfl, hw, _⟩ | ⟨w, a, rfl, hw, _⟩ | ⟨a, b, c, rfl, _⟩ | ⟨w, a, b, rfl, hw, _⟩
  · rcases hw with rfl | rfl
    · bv_omega
      rw [asgU_ne (by decide +kernel)] at q
      exact q
    · bv_omega
      rw [asgU_ne (by decide +kernel)] at q
      exact q
  · rcases hw with rfl | rfl
    · bv_omega
      have e : asgU r (.tup [.str "read", .int a]) = decide (a = r) := by
        show (decide (Str.ofString "read" ≠ Str.ofString "write") && decide (a = r)) = _
        rw [decide_eq_true (by decide +kernel)]; rfl
      rw [e] at q
      exact q
    · bv_omega
      have e : asgU r (.tup [.str "write", .int a]) = false := by
        show (decide (Str.ofString "write" ≠ Str.ofString "write") && decide (a = r)) = _
        rw [decide_eq_false (by decide +kernel)]; rfl
      rw [e] at q
      exact q
  · bv_omega
    exact q
  · rcases hw with rfl | rfl
    · bv_omega
      rw [asgU_ne (by decide +kernel)] at q
      exact q
    · bv_omega
      have ec : cutU [U.str (Str.ofString "swap"), U.int a, U.int b] (some 1) none = [.int a, .int b] := (cut_drop _ (i := 1) (n := 1) rfl).trans rfl
      rw [ec]
      refine v_inI2 ?_
      bv_omega
      exact q
/-- the programs -/
abbrev Po (p n : Int) (ws : List Str) (L d : Nat) (xs : List U) : Prop := Pn (OpOk p n ws) Rd L d xs
theorem Po.pn {p n : Int} {ws : List Str} {L d : Nat} {xs : List U} (hp : p < 1000000) (hn : n < 1000) (h : Po p n ws L d xs) : Pn Op Rd L d xs := Pn.map (fun _ h => h.op hp hn) (fun _ h => h) (Nat.le_refl _) h
theorem Po.len {p n : Int} {ws : List Str} {L d : Nat} {xs : List U} (hp : p < 1000000) (hn : n < 1000) (h : Po p n ws L d xs) : ((flt d xs).length : Int) = stp d xs := flt_len (R := Rd) (fun k h => h.1) (h.pn hp hn)
def lilA (sc sa : List U → M U) : FxS :=
  fSeq (fIf (fBl (fBin (gEq false) (fVar 1) (fC (.int 0)))) (fRet (fC .non)) (fSkip)) (fSeq (fSet 3 (fCall (kdG .pur 1 sc) (fCons (fVar 0) (fNil)))) (fSeq (fAsg (fCall gDivmod (fCons (fVar 1) (fCons (fVar 3) (fNil)))) (gUnp 2 (gCons (gNm 4) (gCons (gNm 5) (gNil))))) (fSeq (fSet 6 (fCall (kdG .pur 3 sa) (fCons (fVar 0) (fCons (fVar 5) (fCons (fVar 2) (fNil)))))) (fSeq (fIf (fBl (fBin (gIs true) (fVar 6) (fC .non))) (fRet (fBin gAdd (fBin gMul (fVar 4) (fVar 3)) (fVar 6))) (fSkip)) (fSeq (fSet 6 (fIfE (fBl (fBin gGt (fVar 4) (fC (.int 0)))) (fCall (kdG .pur 3 sa) (fCons (fVar 0) (fCons (fVar 3) (fCons (fVar 2) (fNil))))) (fC .non))) (fRet (fIfE (fBl (fBin (gIs false) (fVar 6) (fC .non))) (fC .non) (fBin gAdd (fBin gMul (fBin gSub (fVar 4) (fC (.int 1))) (fVar 3)) (fVar 6)))))))))
def laA (sc as_ sl : List U → M U) : FxS :=
  fSeq (fAsg (fTup (fCons (fC (.int 0)) (fCons (fC .non) (fNil)))) (gUnp 2 (gCons (gNm 3) (gCons (gNm 4) (gNil))))) (fSeq (fFor (fIter (fVar 0)) (gNm 5) (fSeq (fSet 6 (fBin gSub (fVar 1) (fVar 3))) (fSeq (fIf (fBl (fBin gLe (fVar 6) (fC (.int 0)))) (fRet (fVar 4)) (fSkip)) (fSeq (fIf (fBl (fBin (gEq false) (fBin gIx (fVar 5) (fC (.int 0))) (fC (.str "loop")))) (fSet 7 (fCall (kdG .pur 3 sl) (fCons (fBin gIx (fVar 5) (fC (.int 2))) (fCons (fCall gMin2 (fCons (fVar 6) (fCons (fCall (kdG .pur 1 sc) (fCons (fTup (fCons (fVar 5) (fNil))) (fNil))) (fNil)))) (fCons (fVar 2) (fNil)))))) (fSet 7 (fIfE (fTru (fCall (kdG .pur 2 as_) (fCons (fVar 5) (fCons (fVar 2) (fNil))))) (fC (.int 0)) (fC .non)))) (fSeq (fSet 4 (fIfE (fBl (fBin (gIs false) (fVar 7) (fC .non))) (fVar 4) (fBin gAdd (fVar 3) (fVar 7)))) (fAug 3 gIAdd (fCall (kdG .pur 1 sc) (fCons (fTup (fCons (fVar 5) (fNil))) (fNil))))))))) (fRet (fVar 4)))
section
variable {sc as_ : List U → M U} {gt gA gL : Nat → List U → M U} {mt : Nat} (hs : sc = gDef 1 (scA (gt mt))) (ht : ∀ m, gt (m + 1) = gDef 4 (tmA (gt m))) (ha : as_ = gDef 2 asA)
  (hA : ∀ m, gA (m + 1) = gDef 8 (laA sc as_ (gL m))) (hL : ∀ m, gL (m + 1) = gDef 7 (lilA sc (gA m)))
  {p n : Int} {ws : List Str} (hp : p < 1000000) (hn : n < 1000) {x : Int} {L : Nat} (hLn : L ≤ 1000)
include hs ht hL hp hn hLn
local macro_rules | `(tactic| rfl') => `(tactic| repeat (first | with_reducible refine Lf.kS_nx ?_ | with_reducible refine Lf.kS_rt ?_ | with_reducible refine Lf.kS_bk ?_ | with_reducible refine Lf.kS_ct ?_ | with_reducible refine Lf.kD_rt ?_ | with_reducible refine Lf.kD_nx ?_ | with_reducible refine Lf.kF_nx ?_ | with_reducible refine Lf.kF_ct ?_ | with_reducible refine Lf.kF_bk ?_ | with_reducible refine Lf.kF_rt ?_ | with_reducible refine Lf.v_ifT ?_ | with_reducible refine Lf.v_ifF ?_ | with_reducible refine Lf.v_ifNT ?_ | with_reducible refine Lf.v_ifNF ?_ | with_reducible refine Lf.kP_int ?_ | with_reducible refine Lf.kP_bl ?_ | with_reducible refine Lf.kP_str ?_ | with_reducible refine Lf.kP_non ?_ | with_reducible refine Lf.v_iadd ?_ | with_reducible refine Lf.Wp.ok ?_ | with_reducible refine Lf.seq_wp ?_ | with_reducible refine Lf.v_bin ?_ | with_reducible refine Lf.v_cons ?_ | with_reducible refine Lf.v_call ?_ | with_reducible refine Lf.v_ret ?_ | with_reducible refine Lf.v_set ?_ | with_reducible refine Lf.v_asg ?_ | with_reducible refine Lf.v_if ?_ | with_reducible refine Lf.v_ifE ?_ | with_reducible refine Lf.v_bl ?_ | with_reducible refine Lf.v_tru ?_ | with_reducible refine Lf.v_and ?_ | with_reducible refine Lf.v_or ?_ | with_reducible refine Lf.v_not ?_ | with_reducible refine Lf.v_andV ?_ | with_reducible refine Lf.v_orV ?_ | with_reducible refine Lf.v_notV ?_ | with_reducible refine Lf.v_c ?_ | with_reducible refine Lf.v_nil ?_ | with_reducible refine Lf.v_skip ?_ | with_reducible refine Lf.v_drop ?_ | with_reducible refine Lf.v_retN ?_ | with_reducible refine Lf.v_brk ?_ | with_reducible refine Lf.v_cnt ?_ | with_reducible refine Lf.v_nm ?_ | with_reducible refine Lf.v_gnil ?_ | with_reducible refine Lf.v_gcons ?_ | with_reducible refine Lf.v_yes ?_ | with_reducible refine Lf.v_for ?_ | with_reducible refine Lf.v_lc ?_ | with_reducible refine Lf.v_rg ?_ | with_reducible refine Lf.v_iter ?_ | with_reducible refine Lf.v_iterT ?_ | with_reducible refine Lf.v_add ?_ | with_reducible refine Lf.v_sub ?_ | with_reducible refine Lf.v_neg ?_ | with_reducible refine Lf.v_lt ?_ | with_reducible refine Lf.v_le ?_ | with_reducible refine Lf.v_gt ?_ | with_reducible refine Lf.v_ge ?_ | with_reducible refine Lf.v_eqI ?_ | with_reducible refine Lf.v_neI ?_ | with_reducible refine Lf.v_abs ?_ | with_reducible refine Lf.v_intI ?_ | with_reducible refine Lf.v_intB ?_ | with_reducible refine Lf.v_max2 ?_ | with_reducible refine Lf.v_min2 ?_ | with_reducible refine Lf.v_lenT ?_ | with_reducible refine Lf.v_lenN ?_ | with_reducible refine Lf.v_nw ?_ | with_reducible refine Lf.v_un ?_ | with_reducible refine Lf.v_tup ?_ | with_reducible refine Lf.v_lst ?_ | with_reducible refine Lf.v_par2 ?_ | with_reducible refine Lf.v_par3 ?_ | with_reducible refine Lf.v_chain ?_ | with_reducible refine Lf.v_meth ?_ | with_reducible refine Lf.v_subT ?_ | with_reducible refine Lf.v_isiIB ?_ | with_reducible refine Lf.v_isiII ?_ | with_reducible refine Lf.v_sl ?_ | with_reducible refine Lf.v_noP ?_ | with_reducible refine Lf.v_pt ?_ | with_reducible refine Lf.v_cutT ?_ | ((with_reducible apply Lf.v_var); exact rfl) | ((with_reducible refine Lf.v_kw ?_ ?_); exact rfl) | ((with_reducible apply Lf.v_iterO); first | exact rfl | assumption) | ((with_reducible apply Lf.v_lenL); first | exact rfl | assumption) | ((with_reducible refine Lf.v_unp ?_ ?_); exact rfl) | ((with_reducible apply Lf.v_aug); exact rfl) | ((with_reducible refine Lf.v_mod ?_ ?_); first | decide | omega | assumption | fail) | ((with_reducible refine Lf.v_div ?_ ?_); first | exact ⟨by decide, by decide +kernel⟩ | assumption | exact Lf.log2d (by omega) ⟨by omega, by omega⟩ | fail) | ((with_reducible refine Lf.v_mul ?_ ?_); first | exact Lf.log2m ⟨by omega, by omega⟩ ⟨by omega, by omega⟩ | exact Lf.log2m (by assumption) ⟨by omega, by omega⟩ | exact Lf.log2m ⟨by omega, by omega⟩ (by assumption) | fail) | ((with_reducible refine Lf.v_pow ?_ ?_); exact ⟨by decide, by decide, by decide⟩) | ((with_reducible refine Lf.v_rg1 ?_ ?_); first | decide | fail) | ((with_reducible apply Lf.v_ixL); (first | exact rfl | assumption | fail); (first | exact rfl | assumption | fail)) | ((with_reducible apply Lf.v_ixT); (first | exact rfl | assumption | fail)) | ((with_reducible apply Lf.v_ixN); (first | exact rfl | assumption | fail)) | with_reducible refine ⟨_, rfl, ?_⟩ | (refine ⟨_, (rfl : Lf.tru _ (Lf.U.bl _) = some _), ?_⟩) | with_reducible refine ⟨_, _, rfl, ?_⟩ | with_reducible refine ⟨_, _, _, rfl, ?_⟩ | (refine ⟨(Nat.le_of_ble_eq_true rfl : List.length _ ≤ 16777216), ?_⟩) | with_reducible refine Lf.v_enum ?_ | fail))
theorem lil_ok {d m : Nat} {b : List U} (hd : d ≤ 6) (hdt : d < mt) (hb : Po p n ws L d b)
    (la : ∀ (mo : Nat), mo ≤ (flt d b).length → ∀ (T : Sto) (Q : U → Sto → Prop), Q (optU (lastIx (asgU x) ((flt d b).take mo))) T → Wp (kdG .pur 3 (gA m) [.tup b, .int (mo : Nat), .int x] T) Q)
    {k mo : Nat} (hk : k ≤ 1000000000000000000) (hmo : mo ≤ k * (flt d b).length) {T : Sto} {Q : U → Sto → Prop} (q : Q (optU (lastIx (asgU x) ((List.replicate k (flt d b)).flatten.take mo))) T) : Wp (kdG .pur 3 (gL (m + 1)) [.tup b, .int (mo : Nat), .int x] T) Q := by
  have hpn := hb.pn hp hn
  have hlen := hb.len hp hn
  have hsm := stp_sm hLn hd hpn
  rw [hL]
  refine purK rfl ?_ (gDef_wp ?_)
  · show (nrs b && (true && (true && true))) = true
    rw [hpn.nrs]; rfl
  unfold lilA
  rfl'
  refine v_ifd (fun h0 => ?_) (fun h0 => ?_)
  · have : mo = 0 := by omega
    subst this
    bv_omega
    exact q
  · have hS : 0 < (flt d b).length := by
      cases hz : (flt d b).length with
      | zero => rw [hz, Nat.mul_zero] at hmo; omega
      | succ z => omega
    bv_omega
    refine scA_ok hs ht hLn hdt hd hpn ?_
    rw [← hlen]
    have hSs : Sm ((flt d b).length : Nat) := sm_of (d := d) hd ⟨by have := Bd_pos d; omega, by have := Bd_pos d; omega⟩
    bv_omega
    refine v_divmod (log2d (by omega) hSs) ?_
    bv_omega
    rw [← Int.natCast_emod, ← Int.natCast_ediv]
    have hr := Nat.mod_lt mo hS
    have hmod := Nat.div_add_mod mo (flt d b).length
    rw [rep_take _ hS k mo hmo, lastIx_app] at q
    generalize hB : flt d b = B at *
    generalize mo / B.length = rd at *
    generalize mo % B.length = rest at *
    have hbig : ((rd * B.length : Nat) : Int) ≤ 1000000000000000000 * Bd d := by
      have h1 : rd * B.length ≤ k * B.length := by rw [Nat.mul_comm rd]; omega
      have h2 : k * B.length ≤ 1000000000000000000 * B.length := Nat.mul_le_mul_right _ hk
      have h3 : (B.length : Int) ≤ Bd d := by
        have := (cnt_bd hLn (wt_bd []) hpn).2
        unfold stp at hlen
        omega
      omega
    have hrd : (rd : Int) ≤ 1000000000000000000 * Bd d := by
      have h1 : rd * 1 ≤ rd * B.length := Nat.mul_le_mul_left _ hS
      omega
    have hrs : Sm (rd : Nat) := sm_of (d := d) hd ⟨by have := Bd_pos d; omega, hrd⟩
    have hrs1 : Sm ((rd : Nat) - 1 : Int) := sm_of (d := d) hd ⟨by have := Bd_pos d; omega, by omega⟩
    refine la rest (by omega) _ _ ?_
    cases h1 : lastIx (asgU x) (B.take rest) with
    | some i =>
      rw [h1, rep_len'] at q
      rw [optU_some]
      rfl'
      refine v_isIN ?_
      rfl'
      refine v_mul (log2m hrs hSs) ?_
      rfl'
      have e : ((rd * B.length + i : Nat) : Int) = (rd : Int) * (B.length : Int) + (i : Int) := by push_cast; rfl
      rw [← e]
      exact q
    | none =>
      rw [h1] at q
      simp only [oAdd] at q
      rw [optU_none]
      rfl'
      refine v_isNN ?_
      rfl'
      refine v_ifd (fun hr0 => ?_) (fun hr0 => ?_)
      · rfl'
        refine la B.length (Nat.le_refl _) _ _ ?_
        rw [List.take_length]
        obtain ⟨r', rfl⟩ : ∃ r', rd = r' + 1 := ⟨rd - 1, by omega⟩
        rw [lastIx_rep] at q
        cases h2 : lastIx (asgU x) B with
        | some i =>
          rw [h2] at q
          unfold optU
          rfl'
          refine v_isIN ?_
          rfl'
          refine v_mul (log2m hrs1 hSs) ?_
          rfl'
          have e : ((r' * B.length + i : Nat) : Int) = (((r' + 1 : Nat) : Int) - 1) * (B.length : Int) + (i : Int) := by
            rw [show ((r' + 1 : Nat) : Int) - 1 = (r' : Int) by omega]; push_cast; rfl
          rw [← e]
          exact q
        | none =>
          rw [h2] at q
          unfold optU
          rfl'
          refine v_isNN ?_
          rfl'
          exact q
      · have : rd = 0 := by omega
        subst this
        rfl'
        refine v_isNN ?_
        rfl'
        exact q
include ha hA
theorem la_ok : ∀ (d m : Nat) (xs : List U), 2 * d < m → d < mt → d ≤ 6 → Po p n ws L d xs → ∀ (mo : Nat), mo ≤ (flt d xs).length → ∀ (T : Sto) (Q : U → Sto → Prop), Q (optU (lastIx (asgU x) ((flt d xs).take mo))) T → Wp (kdG .pur 3 (gA m) [.tup xs, .int (mo : Nat), .int x] T) Q := by
  intro d
  induction d using Nat.strongRecOn with
  | ind d ih =>
    intro m xs hm hmt hd h mo hmo T Q q
    obtain ⟨m, rfl⟩ : ∃ m', m = m' + 1 := ⟨m - 1, by omega⟩
    have hpn := h.pn hp hn
    rw [hA]
    refine purK rfl ?_ (gDef_wp ?_)
    · show (nrs xs && (true && (true && true))) = true
      rw [hpn.nrs]; rfl
    unfold laA
    bv_omega
    have hLn1 : xs ≠ [] → 1 ≤ L := fun hne => by
      have := h.len
      cases xs with
      | nil => exact absurd rfl hne
      | cons y ys => have := Pn.len h; simp at this; omega
    refine wp_forC (fun r η T => T = [] ∧ ∃ done o5 o6 o7, xs = done ++ r ∧ η = [some (.tup xs), some (.int (mo : Nat)), some (.int x), some (.int ((flt d done).length : Nat)), some (optU (lastIx (asgU x) ((flt d done).take mo))), o5, o6, o7]) ⟨rfl, [], _, _, _, rfl, by rw [flt_nil, List.take_nil]; rfl⟩ (fun y r η T ⟨eT, done, o5, o6, o7, ex, e⟩ => ?_) (fun η T ⟨eT, done, o5, o6, o7, ex, e⟩ => ?_)
    · subst eT e
      have hy : y ∈ xs := by rw [ex]; exact List.mem_append_right _ (List.mem_cons_self ..)
      have enx : xs = (done ++ [y]) ++ r := by rw [ex]; simp
      have h1 : Po p n ws L d [y] := Pn.sub h (fun z hz => by rw [List.mem_singleton.mp hz]; exact hy) (hLn1 (List.ne_nil_of_mem hy))
      have l1 := h1.len hp hn
      have fin : ∀ (T : Sto) (o5 o6 o7 : Option U), T = [] → ∃ done' o5' o6' o7', xs = done' ++ r ∧ ([some (.tup xs), some (.int (mo : Nat)), some (.int x), some (.int (((flt d done).length : Nat) + stp d [y])), some (optU (lastIx (asgU x) ((flt d (done ++ [y])).take mo))), o5, o6, o7] : Lo) = [some (.tup xs), some (.int (mo : Nat)), some (.int x), some (.int ((flt d done').length : Nat)), some (optU (lastIx (asgU x) ((flt d done').take mo))), o5', o6', o7'] := fun T o5 o6 o7 _ => by
        refine ⟨done ++ [y], o5, o6, o7, enx, ?_⟩
        rw [← l1, flt_app d done [y], List.length_append, Int.natCast_add]
      rfl'
      refine v_ifd (fun hleft => ?_) (fun hleft => ?_)
      · bv_omega
        have e1 : (flt d xs).take mo = (flt d done).take mo := by rw [ex, flt_app, List.take_append_of_le_length (by omega)]
        rw [e1] at q
        have hk : ∀ o, kP T Q (optU o) [] ↔ Q (optU o) T := fun o => by
          cases o with
          | none => exact ⟨fun h => h.2, fun h => ⟨rfl, h⟩⟩
          | some i => exact ⟨fun h => h.2, fun h => ⟨rfl, h⟩⟩
        exact (hk _).mpr q
      · -- the item's own last step
        have etake : (flt d (done ++ [y])).take mo = flt d done ++ (flt d [y]).take (mo - (flt d done).length) := by
          rw [flt_app, List.take_append, List.take_of_length_le (by omega)]
        have edone : (flt d done).take mo = flt d done := List.take_of_length_le (by omega)
        have eleft : ((mo : Nat) : Int) - ((flt d done).length : Nat) = ((mo - (flt d done).length : Nat) : Int) := by omega
        have finI : ∀ (i : Nat) (o5 o6 o7 : Option U), lastIx (asgU x) ((flt d [y]).take (mo - (flt d done).length)) = some i → ([] : Sto) = [] ∧ ∃ done' o5' o6' o7', xs = done' ++ r ∧ ([some (.tup xs), some (.int (mo : Nat)), some (.int x), some (.int (((flt d done).length : Nat) + stp d [y])), some (.int (((flt d done).length : Nat) + (i : Nat))), o5, o6, o7] : Lo) = [some (.tup xs), some (.int (mo : Nat)), some (.int x), some (.int ((flt d done').length : Nat)), some (optU (lastIx (asgU x) ((flt d done').take mo))), o5', o6', o7'] := fun i o5 o6 o7 e => by
          have f := fin [] o5 o6 o7 rfl
          rw [etake, lastIx_app, e] at f
          simp only [oAdd, optU_some, Int.natCast_add] at f
          exact ⟨rfl, f⟩
        have finN : ∀ (o5 o6 o7 : Option U), lastIx (asgU x) ((flt d [y]).take (mo - (flt d done).length)) = none → ([] : Sto) = [] ∧ ∃ done' o5' o6' o7', xs = done' ++ r ∧ ([some (.tup xs), some (.int (mo : Nat)), some (.int x), some (.int (((flt d done).length : Nat) + stp d [y])), some (optU (lastIx (asgU x) ((flt d done).take mo))), o5, o6, o7] : Lo) = [some (.tup xs), some (.int (mo : Nat)), some (.int x), some (.int ((flt d done').length : Nat)), some (optU (lastIx (asgU x) ((flt d done').take mo))), o5', o6', o7'] := fun o5 o6 o7 e => by
          have f := fin [] o5 o6 o7 rfl
          rw [etake, lastIx_app, e] at f
          simp only [oAdd] at f
          rw [edone]
          exact ⟨rfl, f⟩
        rcases Pn.item h hy with ho | ⟨d', k, b, rfl, rfl, hk, hb⟩
        · have hop := ho.op hp hn
          have e1 : lastIx (asgU x) ((flt d [y]).take (mo - (flt d done).length)) = if asgU x y = true then some 0 else none := by
            rw [flt_op hop, List.take_of_length_le (by simp; omega)]; rfl
          have ho2 := hop
          obtain ⟨w, is, ey, hw, _, _⟩ := hop
          rw [ey]
          rfl'
          refine v_ix0 ?_
          rfl'
          refine v_eqS0 ?_
          rfl'
          refine v_nod (words7_ne w hw) ?_
          rfl'
          rw [← ey]
          refine asA_ok ha ho ?_
          rfl'
          cases hb : asgU x y with
          | true =>
            rw [hb] at e1
            refine v_ifT ?_
            rfl'
            refine v_isIN ?_
            rfl'
            refine scA_ok hs ht hLn hmt hd (h1.pn hp hn) ?_
            rfl'
            exact finI 0 _ _ _ e1
          | false =>
            rw [hb] at e1
            refine v_ifF ?_
            rfl'
            refine v_isNN ?_
            rfl'
            refine scA_ok hs ht hLn hmt hd (h1.pn hp hn) ?_
            rfl'
            exact finN _ _ _ e1
        · have bpn := Po.pn hp hn hb
          have blen := Po.len hp hn hb
          have hk2 := hk.2
          have e1 : flt (d' + 1) [lpU k b] = (List.replicate k.toNat (flt d' b)).flatten := flt_lp
          have elen : (flt (d' + 1) [lpU k b]).length = k.toNat * (flt d' b).length := by rw [e1, rep_len']
          unfold lpU
          rfl'
          refine v_eqS0 ?_
          rfl'
          refine v_yesd rfl ?_
          rfl'
          refine scA_ok hs ht hLn hmt hd (h1.pn hp hn) ?_
          rfl'
          have emin : (if stp (d' + 1) [lpU k b] < (mo : Int) - ((flt (d' + 1) done).length : Nat) then stp (d' + 1) [lpU k b] else (mo : Int) - ((flt (d' + 1) done).length : Nat)) = ((min (mo - (flt (d' + 1) done).length) (k.toNat * (flt d' b).length) : Nat) : Int) := by
            rw [← l1, elen]
            split <;> omega
          rw [emin]
          obtain ⟨m', rfl⟩ : ∃ m', m = m' + 1 := ⟨m - 1, by omega⟩
          refine lil_ok hs ht hL hp hn hLn (by omega) (by omega) hb (fun mo hmo T Q q => ih d' (Nat.lt_succ_self _) m' b (by omega) (by omega) (by omega) hb mo hmo T Q q) (k := k.toNat) (by omega) (Nat.min_le_right _ _) ?_
          have e2 : (List.replicate k.toNat (flt d' b)).flatten.take (min (mo - (flt (d' + 1) done).length) (k.toNat * (flt d' b).length)) = (flt (d' + 1) [lpU k b]).take (mo - (flt (d' + 1) done).length) := by
            rw [e1]
            by_cases hlt : mo - (flt (d' + 1) done).length ≤ k.toNat * (flt d' b).length
            · rw [Nat.min_eq_left hlt]
            · rw [Nat.min_eq_right (by omega), List.take_of_length_le (by rw [rep_len']; exact Nat.le_refl _), List.take_of_length_le (by rw [rep_len']; omega)]
          rw [e2]
          cases ho : lastIx (asgU x) ((flt (d' + 1) [lpU k b]).take (mo - (flt (d' + 1) done).length)) with
          | none =>
            rw [optU_none]
            rfl'
            refine v_isNN ?_
            rfl'
            refine scA_ok hs ht hLn hmt hd (h1.pn hp hn) ?_
            rfl'
            exact finN _ _ _ ho
          | some i =>
            rw [optU_some]
            rfl'
            refine v_isIN ?_
            rfl'
            refine scA_ok hs ht hLn hmt hd (h1.pn hp hn) ?_
            rfl'
            exact finI i _ _ _ ho
    · subst eT e
      rw [List.append_nil] at ex
      subst ex
      bv_omega
      have hk : ∀ o, kP T Q (optU o) [] ↔ Q (optU o) T := fun o => by
        cases o with
        | none => exact ⟨fun h => h.2, fun h => ⟨rfl, h⟩⟩
        | some i => exact ⟨fun h => h.2, fun h => ⟨rfl, h⟩⟩
      exact (hk _).mpr q
end
end Lf


set_option Elab.async false
set_option linter.all false
set_option maxRecDepth 100000
set_option maxHeartbeats 4000000
/-! ## texts of values -/
namespace Lf
open PySem PySem.Spec L2
/-- a value whose text can be told: how deep, how long at most -/
def Rp (T : Sto) (u : U) (k b : Nat) : Prop := ∃ d, (∀ n, k ≤ n → dat T n u = some d) ∧ d.showable = true ∧ d.canLay0 = true ∧ d.depth ≤ k ∧ d.leavesShort 1930 = true ∧ d.bulk ≤ b ∧ ∀ ns, u ≠ .scr ns
def Rps (T : Sto) (us : List U) (k b : Nat) : Prop := ∃ ds, (∀ n, k ≤ n → dats (dat T n) us = some ds) ∧ PyData.showableAll ds = true ∧ PyData.canLayAll0 ds = true ∧ PyData.depthAll ds ≤ k ∧ PyData.leavesShortAll 1930 ds = true ∧ PyData.bulkAll ds ≤ b
def shw (T : Sto) (u : U) : Str := match dat T 66 u with
  | some d => d.shown
  | none => Str.empty
section
variable {T : Sto}
theorem Rp.mono {u : U} {k b k' b' : Nat} (h : Rp T u k b) (hk : k ≤ k') (hb : b ≤ b') : Rp T u k' b' :=
  let ⟨d, h1, h2, h3, h4, h5, h6, h7⟩ := h; ⟨d, fun n hn => h1 n (Nat.le_trans hk hn), h2, h3, Nat.le_trans h4 hk, h5, Nat.le_trans h6 hb, h7⟩
theorem Rps.mono {u : List U} {k b k' b' : Nat} (h : Rps T u k b) (hk : k ≤ k') (hb : b ≤ b') : Rps T u k' b' :=
  let ⟨d, h1, h2, h3, h4, h5, h6⟩ := h; ⟨d, fun n hn => h1 n (Nat.le_trans hk hn), h2, h3, Nat.le_trans h4 hk, h5, Nat.le_trans h6 hb⟩
theorem Rp.int {i : Int} (h : i.natAbs.log2 < 1920) : Rp T (.int i) 0 0 := by
  refine ⟨.int i, fun n _ => dat_int i, by simp [PyData.showable, h], rfl, Nat.le_of_eq rfl, ?_, Nat.le_of_eq rfl, fun _ => U.noConfusion⟩
  simp only [PyData.leavesShort, decide_eq_true_eq]
  exact Nat.le_trans (PyProof.Rows.int_text_len_1921 h) (by decide)
theorem Rp.sm {i : Int} (h : Sm i) : Rp T (.int i) 0 0 := .int (by have := log2_small h; omega)
theorem Rp.non : Rp T .non 0 0 := ⟨.none, fun n _ => by cases n <;> rfl, rfl, rfl, Nat.le_of_eq rfl, rfl, Nat.le_of_eq rfl, fun _ => U.noConfusion⟩
theorem Rp.bl (b : Bool) : Rp T (.bl b) 0 0 := ⟨.bool b, fun n _ => by cases n <;> rfl, rfl, rfl, Nat.le_of_eq rfl, rfl, Nat.le_of_eq rfl, fun _ => U.noConfusion⟩
theorem Rp.str {x : Str} (h : PyData.strOk x = true) : Rp T (.str x) 0 x.cps.size := by
  refine ⟨.str x, fun n _ => dat_str x, rfl, h, Nat.le_of_eq rfl, ?_, Nat.le_of_eq rfl, fun _ => U.noConfusion⟩
  unfold PyData.strOk at h
  simp only [PyData.leavesShort, List.all_eq_true, decide_eq_true_eq]
  intro c hc
  rw [Array.all_eq_true] at h
  obtain ⟨i, hi, rfl⟩ := List.mem_iff_getElem.mp hc
  have := h i (by simpa using hi)
  simp only [decide_eq_true_eq] at this
  rw [Array.getElem_toList]
  omega
theorem Rps.nil : Rps T [] 0 0 := ⟨[], fun _ _ => rfl, rfl, rfl, Nat.le_of_eq rfl, rfl, Nat.le_of_eq rfl⟩
theorem Rps.cons {u : U} {us : List U} {k b c : Nat} (h : Rp T u k b) (h2 : Rps T us k c) : Rps T (u :: us) k (b + 1 + c) := by
  obtain ⟨d, a1, a2, a3, a4, a5, a6, _⟩ := h
  obtain ⟨ds, b1, b2, b3, b4, b5, b6⟩ := h2
  refine ⟨d :: ds, fun n hn => dats_cons (a1 n hn) (b1 n hn), ?_, ?_, ?_, ?_, ?_⟩
  · simp only [PyData.showableAll, a2, b2, Bool.and_self]
  · simp only [PyData.canLayAll0, a3, b3, Bool.and_self]
  · simp only [PyData.depthAll]; omega
  · simp only [PyData.leavesShortAll, a5, b5, Bool.and_self]
  · simp only [PyData.bulkAll]; omega
theorem Rp.tup {us : List U} {k b : Nat} (h : Rps T us k b) : Rp T (.tup us) (k + 1) b := by
  obtain ⟨ds, b1, b2, b3, b4, b5, b6⟩ := h
  refine ⟨.tuple ds, fun n hn => ?_, ?_, ?_, ?_, ?_, ?_, fun _ => U.noConfusion⟩
  · obtain ⟨n, rfl⟩ : ∃ m, n = m + 1 := ⟨n - 1, by omega⟩
    exact dat_tup (b1 n (by omega))
  · simpa only [PyData.showable] using b2
  · simpa only [PyData.canLay0] using b3
  · simp only [PyData.depth]; omega
  · simpa only [PyData.leavesShort] using b5
  · simpa only [PyData.bulk] using b6
theorem Rp.ob {us : List U} {i k b : Nat} (e : T[i]? = some (.lst us)) (h : Rps T us k b) : Rp T (.ob i) (k + 1) b := by
  obtain ⟨ds, b1, b2, b3, b4, b5, b6⟩ := h
  refine ⟨.list ds, fun n hn => ?_, ?_, ?_, ?_, ?_, ?_, fun _ => U.noConfusion⟩
  · obtain ⟨n, rfl⟩ : ∃ m, n = m + 1 := ⟨n - 1, by omega⟩
    show (match T[i]? with
      | some (.lst xs) => (dats (dat T n) xs).map PyData.list
      | _ => none) = _
    rw [e]
    show (dats (dat T n) us).map PyData.list = _
    rw [b1 n (by omega)]; rfl
  · simpa only [PyData.showable] using b2
  · simpa only [PyData.canLay0] using b3
  · simp only [PyData.depth]; omega
  · simpa only [PyData.leavesShort] using b5
  · simpa only [PyData.bulk] using b6
theorem Rps.all {us : List U} {k b : Nat} (h : ∀ u ∈ us, Rp T u k b) : Rps T us k (us.length * (b + 1)) := by
  induction us with
  | nil => exact Rps.mono .nil (Nat.zero_le _) (Nat.zero_le _)
  | cons u us ih =>
    refine Rps.mono (.cons (h u (List.mem_cons_self ..)) (ih fun v hv => h v (List.mem_cons_of_mem _ hv))) (Nat.le_refl _) ?_
    rw [List.length_cons, Nat.succ_mul]; omega
theorem Rps.ints {ns : List Int} (h : ∀ i ∈ ns, i.natAbs.log2 < 1920) : Rps T (ns.map .int) 0 ns.length := by
  have : Rps T (ns.map .int) 0 ((ns.map U.int).length * (0 + 1)) := Rps.all fun u hu => by
    obtain ⟨i, hi, rfl⟩ := List.mem_map.mp hu
    exact .int (h i hi)
  simpa using this
theorem Rps.app {us vs : List U} {k b c : Nat} (h : Rps T us k b) (h2 : Rps T vs k c) : Rps T (us ++ vs) k (b + c) := by
  obtain ⟨ds, a1, a2, a3, a4, a5, a6⟩ := h
  obtain ⟨es, b1, b2, b3, b4, b5, b6⟩ := h2
  have da : ∀ n, ∀ (us : List U) (ds : List PyData), dats (dat T n) us = some ds → dats (dat T n) vs = some es → dats (dat T n) (us ++ vs) = some (ds ++ es) := by
    intro n us
    induction us with
    | nil => intro ds e e2; cases e; exact e2
    | cons u us ih =>
      intro ds e e2
      unfold dats at e
      split at e
      · rename_i d ds' h1 h2
        cases e
        exact dats_cons h1 (ih _ h2 e2)
      · cases e
  refine ⟨ds ++ es, fun n hn => da n us ds (a1 n hn) (b1 n hn), ?_, ?_, ?_, ?_, ?_⟩
  · clear a1 a3 a4 a5 a6 da
    induction ds with
    | nil => exact b2
    | cons d ds ih => simp only [List.cons_append, PyData.showableAll, Bool.and_eq_true] at a2 ⊢; exact ⟨a2.1, ih a2.2⟩
  · clear a1 a2 a4 a5 a6 da
    induction ds with
    | nil => exact b3
    | cons d ds ih => simp only [List.cons_append, PyData.canLayAll0, Bool.and_eq_true] at a3 ⊢; exact ⟨a3.1, ih a3.2⟩
  · clear a1 a2 a3 a5 a6 da
    induction ds with
    | nil => exact b4
    | cons d ds ih => simp only [List.cons_append, PyData.depthAll] at a4 ⊢; have := ih (by omega); omega
  · clear a1 a2 a3 a4 a6 da
    induction ds with
    | nil => exact b5
    | cons d ds ih => simp only [List.cons_append, PyData.leavesShortAll, Bool.and_eq_true] at a5 ⊢; exact ⟨a5.1, ih a5.2⟩
  · clear a1 a2 a3 a4 a5 da
    have : ∀ ds : List PyData, PyData.bulkAll (ds ++ es) = PyData.bulkAll ds + PyData.bulkAll es := by
      intro ds
      induction ds with
      | nil => simp [PyData.bulkAll]
      | cons d ds ih => simp only [List.cons_append, PyData.bulkAll, ih]; omega
    rw [this]; omega
theorem Rp.op {x : U} (h : Op x) : Rp T x 1 9 := by
  obtain ⟨w, is, rfl, hw, hl, hi⟩ := h
  have h1 : Rps T (is.map .int) 0 is.length := Rps.ints fun i h => by
    have := log2_small (i := i) ⟨by have := hi i h; omega, by have := hi i h; omega⟩
    omega
  have hs : ∀ w ∈ words7, w.cps.size ≤ 5 := by decide +kernel
  have := hs w hw
  exact Rp.mono (.tup (.cons (.str (words7_ok w hw)) h1)) (by omega) (by omega)
def bkP : Nat → Nat → Nat
  | 0, l => 10 * l
  | d + 1, l => l * (10 + bkP d (l / 2))
theorem Rps.prog {A : U → Prop} {R : Int → Prop} (hA : ∀ x, A x → Op x) (hR : ∀ k, R k → Rd k) : ∀ {d l : Nat} {xs : List U}, Pr A R d l xs → Rps T xs (2 * d + 1) (bkP d l)
  | 0, l, xs, h => by
    refine Rps.mono (Rps.all (b := 9) fun u hu => Rp.op (hA u (h.2 u hu))) (by omega) ?_
    have := h.1
    unfold bkP
    omega
  | d + 1, l, xs, h => by
    have hb : ∀ u ∈ xs, Rp T u (2 * (d + 1) + 1) (9 + bkP d (l / 2)) := fun u hu => by
      rcases h.2 u hu with h | ⟨k, b, rfl, hk, hb⟩
      · exact Rp.mono (.op (hA u h)) (by omega) (by omega)
      · have hk := hR k hk
        have hb : Pr A R d ((l / 2 : Nat) : Int) b := by rw [show ((l / 2 : Nat) : Int) = (l : Int) / 2 by omega]; exact hb
        have h1 := Rps.prog hA hR hb
        have hs : (Str.ofString "loop").cps.size = 4 := by decide +kernel
        have h3 : Rps T [.str "loop", .int k, .tup b] (2 * d + 2) ((Str.ofString "loop").cps.size + 1 + (0 + 1 + (bkP d (l / 2) + 1 + 0))) :=
          .cons (Rp.mono (.str lp_str) (Nat.zero_le _) (Nat.le_refl _)) (.cons (Rp.mono (.sm ⟨by have := hk.1; omega, by have := hk.2; omega⟩) (Nat.zero_le _) (Nat.le_refl _)) (.cons (.tup h1) (Rps.mono .nil (Nat.zero_le _) (Nat.le_refl _))))
        exact Rp.mono (.tup h3) (by omega) (by omega)
    refine Rps.mono (Rps.all hb) (Nat.le_refl _) ?_
    have hl : xs.length ≤ l := by have := h.1; omega
    have := Nat.mul_le_mul_right (10 + bkP d (l / 2)) hl
    show _ ≤ l * (10 + bkP d (l / 2))
    rw [show 9 + bkP d (l / 2) + 1 = 10 + bkP d (l / 2) by omega]
    exact this
theorem v_reprR {u : U} {k b : Nat} {Q : U → Sto → Prop} (h : Rp T u k b) (hk : k ≤ 64) (hb : b ≤ 8000) (q : Q (.str (shw T u)) T) : Wp (gRepr [u] T) Q := by
  obtain ⟨d, h1, h2, h3, h4, h5, h6, h7⟩ := h
  have e := h1 66 (by omega)
  have hl := PyData.shown_le_bulk 1930 (by decide) d h5
  have hl2 : (1930 + 2) * d.bulk ≤ (1930 + 2) * 8000 := Nat.mul_le_mul_left _ (by omega)
  have hs : SeqAt.shaped d = true := by simp [SeqAt.shaped, h3]; omega
  have es : shw T u = d.shown := by unfold shw; rw [e]
  rw [es] at q
  have fin : ∀ xs, u = .tup xs ∨ (∃ k, u = .ob k) → Wp (gRepr [u] T) Q := fun xs hu => by
    rcases hu with rfl | ⟨j, rfl⟩
    · unfold gRepr
      simp only [e]
      rw [if_pos ⟨h2, hs, by omega⟩]
      exact .ok q
    · unfold gRepr
      simp only [e]
      rw [if_pos ⟨h2, hs, by omega⟩]
      exact .ok q
  cases u with
  | non => cases e; exact .ok q
  | bl b => cases e; exact .ok q
  | int i =>
    cases e
    unfold gRepr
    simp only [PyData.showable, decide_eq_true_eq] at h2
    simp only [h2, if_true]
    exact .ok q
  | str x =>
    cases e
    have hl : (reprText x).length ≤ (1930 + 2) * (PyData.str x).bulk + 1930 := hl
    unfold gRepr
    simp only []
    rw [if_pos (by omega)]
    exact .ok q
  | tup xs => exact fin xs (.inl rfl)
  | ob j => exact fin [] (.inr ⟨j, rfl⟩)
  | scr ns => exact absurd rfl (h7 ns)
  | raw v => cases e
theorem shw_same {i j : Nat} {us : List U} (e1 : T[i]? = some (.lst us)) (e2 : T[j]? = some (.lst us)) : shw T (.ob i) = shw T (.ob j) := by
  have h : dat T 66 (.ob i) = dat T 66 (.ob j) := by
    show (match T[i]? with
      | some (.lst xs) => (dats (dat T 65) xs).map PyData.list
      | _ => none) = (match T[j]? with
      | some (.lst xs) => (dats (dat T 65) xs).map PyData.list
      | _ => none)
    rw [e1, e2]
  unfold shw
  rw [h]
end
mutual
theorem dat_nr {T T' : Sto} : ∀ (n : Nat) (u : U), nr u = true → dat T n u = dat T' n u
  | n, .non, _ => by cases n <;> rfl
  | n, .bl _, _ => by cases n <;> rfl
  | n, .int _, _ => by cases n <;> rfl
  | n, .str _, _ => by cases n <;> rfl
  | 0, .tup _, _ => rfl
  | n + 1, .tup us, h => by
    show (dats (dat T n) us).map PyData.tuple = (dats (dat T' n) us).map PyData.tuple
    rw [dats_nr n us h]
  | n, .ob _, h => by cases h
  | n, .scr _, _ => by cases n <;> rfl
  | n, .raw _, _ => by cases n <;> rfl
theorem dats_nr {T T' : Sto} : ∀ (n : Nat) (us : List U), nrs us = true → dats (dat T n) us = dats (dat T' n) us
  | _, [], _ => rfl
  | n, u :: us, h => by
    have h : (nr u && nrs us) = true := h
    rw [Bool.and_eq_true] at h
    unfold dats
    rw [dat_nr (T := T) (T' := T') n u h.1, dats_nr n us h.2]
end
theorem shw_nr {T T' : Sto} {u : U} (h : nr u = true) : shw T u = shw T' u := by
  unfold shw
  rw [dat_nr (T := T) (T' := T') 66 u h]
theorem Rp.nr {T T' : Sto} {u : U} {k b : Nat} (h : Rp T u k b) (hn : Lf.nr u = true) : Rp T' u k b :=
  let ⟨d, h1, h2⟩ := h; ⟨d, fun n hn' => by rw [← dat_nr (T := T) (T' := T') n u hn]; exact h1 n hn', h2⟩
/-! ## words, steps, executed, assigned of the laws -/
def lwA : FxS := fRet (fLst (fCons (fC (.str "set")) (fCons (fC (.str "copy")) (fCons (fC (.str "copy")) (fCons (fC (.str "add")) (fCons (fC (.str "add")) (fCons (fC (.str "scale")) (fCons (fC (.str "swap")) (fCons (fC (.str "read")) (fCons (fC (.str "write")) (fNil)))))))))))
def words9 : List Str := ["set", "copy", "copy", "add", "add", "scale", "swap", "read", "write"]
local macro_rules | `(tactic| bv_omega) => `(tactic| repeat (first | with_reducible refine Lf.kS_nx ?_ | with_reducible refine Lf.kS_rt ?_ | with_reducible refine Lf.kS_bk ?_ | with_reducible refine Lf.kS_ct ?_ | with_reducible refine Lf.kD_rt ?_ | with_reducible refine Lf.kD_nx ?_ | with_reducible refine Lf.kF_nx ?_ | with_reducible refine Lf.kF_ct ?_ | with_reducible refine Lf.kF_bk ?_ | with_reducible refine Lf.kF_rt ?_ | with_reducible refine Lf.v_ifT ?_ | with_reducible refine Lf.v_ifF ?_ | with_reducible refine Lf.v_ifNT ?_ | with_reducible refine Lf.v_ifNF ?_ | with_reducible refine Lf.kP_int ?_ | with_reducible refine Lf.kP_bl ?_ | with_reducible refine Lf.kP_str ?_ | with_reducible refine Lf.kP_non ?_ | with_reducible refine Lf.v_iadd ?_ | with_reducible refine Lf.Wp.ok ?_ | with_reducible refine Lf.seq_wp ?_ | with_reducible refine Lf.v_bin ?_ | with_reducible refine Lf.v_cons ?_ | with_reducible refine Lf.v_call ?_ | with_reducible refine Lf.v_ret ?_ | with_reducible refine Lf.v_set ?_ | with_reducible refine Lf.v_asg ?_ | with_reducible refine Lf.v_if ?_ | with_reducible refine Lf.v_ifE ?_ | with_reducible refine Lf.v_bl ?_ | with_reducible refine Lf.v_tru ?_ | with_reducible refine Lf.v_and ?_ | with_reducible refine Lf.v_or ?_ | with_reducible refine Lf.v_not ?_ | with_reducible refine Lf.v_andV ?_ | with_reducible refine Lf.v_orV ?_ | with_reducible refine Lf.v_notV ?_ | with_reducible refine Lf.v_c ?_ | with_reducible refine Lf.v_nil ?_ | with_reducible refine Lf.v_skip ?_ | with_reducible refine Lf.v_drop ?_ | with_reducible refine Lf.v_retN ?_ | with_reducible refine Lf.v_brk ?_ | with_reducible refine Lf.v_cnt ?_ | with_reducible refine Lf.v_nm ?_ | with_reducible refine Lf.v_gnil ?_ | with_reducible refine Lf.v_gcons ?_ | with_reducible refine Lf.v_yes ?_ | with_reducible refine Lf.v_for ?_ | with_reducible refine Lf.v_lc ?_ | with_reducible refine Lf.v_rg ?_ | with_reducible refine Lf.v_iter ?_ | with_reducible refine Lf.v_iterT ?_ | with_reducible refine Lf.v_add ?_ | with_reducible refine Lf.v_sub ?_ | with_reducible refine Lf.v_neg ?_ | with_reducible refine Lf.v_lt ?_ | with_reducible refine Lf.v_le ?_ | with_reducible refine Lf.v_gt ?_ | with_reducible refine Lf.v_ge ?_ | with_reducible refine Lf.v_eqI ?_ | with_reducible refine Lf.v_neI ?_ | with_reducible refine Lf.v_abs ?_ | with_reducible refine Lf.v_intI ?_ | with_reducible refine Lf.v_intB ?_ | with_reducible refine Lf.v_max2 ?_ | with_reducible refine Lf.v_min2 ?_ | with_reducible refine Lf.v_lenT ?_ | with_reducible refine Lf.v_lenN ?_ | with_reducible refine Lf.v_nw ?_ | with_reducible refine Lf.v_un ?_ | with_reducible refine Lf.v_tup ?_ | with_reducible refine Lf.v_lst ?_ | with_reducible refine Lf.v_par2 ?_ | with_reducible refine Lf.v_par3 ?_ | with_reducible refine Lf.v_chain ?_ | with_reducible refine Lf.v_meth ?_ | with_reducible refine Lf.v_subT ?_ | with_reducible refine Lf.v_isiIB ?_ | with_reducible refine Lf.v_isiII ?_ | with_reducible refine Lf.v_sl ?_ | with_reducible refine Lf.v_noP ?_ | with_reducible refine Lf.v_pt ?_ | with_reducible refine Lf.v_cutT ?_ | ((with_reducible apply Lf.v_var); exact rfl) | ((with_reducible refine Lf.v_kw ?_ ?_); exact rfl) | ((with_reducible apply Lf.v_iterO); first | exact rfl | assumption) | ((with_reducible apply Lf.v_lenL); first | exact rfl | assumption) | ((with_reducible refine Lf.v_unp ?_ ?_); exact rfl) | ((with_reducible apply Lf.v_aug); exact rfl) | ((with_reducible refine Lf.v_mod ?_ ?_); first | decide | omega | assumption | fail) | ((with_reducible refine Lf.v_div ?_ ?_); first | exact ⟨by decide, by decide +kernel⟩ | assumption | exact Lf.log2d (by omega) ⟨by omega, by omega⟩ | fail) | ((with_reducible refine Lf.v_mul ?_ ?_); first | exact Lf.log2m ⟨by omega, by omega⟩ ⟨by omega, by omega⟩ | exact Lf.log2m (by assumption) ⟨by omega, by omega⟩ | exact Lf.log2m ⟨by omega, by omega⟩ (by assumption) | fail) | ((with_reducible refine Lf.v_pow ?_ ?_); exact ⟨by decide, by decide, by decide⟩) | ((with_reducible refine Lf.v_rg1 ?_ ?_); first | decide | fail) | ((with_reducible apply Lf.v_ixL); (first | exact rfl | assumption | fail); (first | exact rfl | assumption | fail)) | ((with_reducible apply Lf.v_ixT); (first | exact rfl | assumption | fail)) | ((with_reducible apply Lf.v_ixN); (first | exact rfl | assumption | fail)) | with_reducible refine ⟨_, rfl, ?_⟩ | (refine ⟨_, (rfl : Lf.tru _ (Lf.U.bl _) = some _), ?_⟩) | with_reducible refine ⟨_, _, rfl, ?_⟩ | with_reducible refine ⟨_, _, _, rfl, ?_⟩ | (refine ⟨(Nat.le_of_ble_eq_true rfl : List.length _ ≤ 16777216), ?_⟩) | with_reducible refine Lf.v_enum ?_ | with_reducible refine Lf.v_eqS0 ?_ | with_reducible refine Lf.v_neT ?_ | with_reducible refine Lf.v_ix0 ?_ | with_reducible refine Lf.v_tupleT ?_ | with_reducible refine Lf.v_listT ?_ | with_reducible refine Lf.v_revT ?_ | with_reducible refine Lf.v_dic0 ?_ | with_reducible refine Lf.v_dic1 ?_ | ((with_reducible apply Lf.isl_and); (first | exact rfl | assumption | fail)) | ((with_reducible apply Lf.v_appZ); (first | exact rfl | assumption | fail); (first | omega | (simp only [List.length_append, List.length_map, List.length_cons, List.length_nil]; omega) | (simp; omega) | fail)) | ((with_reducible apply Lf.v_tupleL); (first | exact rfl | assumption | fail)) | ((with_reducible apply Lf.v_listL); (first | exact rfl | assumption | fail)) | ((with_reducible refine Lf.v_yesd ?_ ?_); (first | (with_reducible rfl) | assumption | (exact fun z => z rfl) | decide +kernel | omega | fail)) | ((with_reducible refine Lf.v_nod ?_ ?_); (first | (with_reducible rfl) | assumption | (exact fun z => z rfl) | decide +kernel | omega | fail)) | ((with_reducible refine Lf.v_yesn ?_ ?_); (first | (with_reducible rfl) | assumption | (exact fun z => z rfl) | decide +kernel | omega | fail)) | ((with_reducible refine Lf.v_non ?_ ?_); (first | (with_reducible rfl) | assumption | (exact fun z => z rfl) | decide +kernel | omega | fail)) | ((with_reducible refine Lf.kP_tup ?_ ?_); first | exact rfl | exact Lf.nrs_ints _ | assumption | fail) | ((with_reducible refine Lf.v_rg1 ?_ ?_); exact Lf.small62_of (by omega) (by omega)) | fail))
theorem lwA_ok {g : List U → M U} (hg : g = gDef 0 lwA) {T : Sto} {Q : U → Sto → Prop} (q : Q (.ob T.length) (T ++ [.lst (words9.map .str)])) : Wp (kdG .pur 0 g [] T) Q := by
  subst hg
  show Wp (pureG 0 (gDef 0 lwA) [] T) Q
  refine purK (n := 0) (us := []) rfl rfl ?_
  refine gDef_wp ?_
  unfold lwA
  bv_omega
  exact kP_ob (o := .lst (words9.map .str)) rfl rfl q
def lsA (self : List U → M U) : FxS := fRet (fCall gSum (fCons (fLc [1] (fIter (fVar 0)) (gNm 1) (fYes) (fIfE (fBl (fBin (gEq false) (fBin gIx (fVar 1) (fC (.int 0))) (fC (.str "loop")))) (fBin gMul (fBin gIx (fVar 1) (fC (.int 1))) (fCall (kdG .pur 1 self) (fCons (fBin gIx (fVar 1) (fC (.int 2))) (fNil)))) (fC (.int 1)))) (fNil)))
local macro_rules | `(tactic| rfl') => `(tactic| repeat (first | with_reducible refine Lf.kS_nx ?_ | with_reducible refine Lf.kS_rt ?_ | with_reducible refine Lf.kS_bk ?_ | with_reducible refine Lf.kS_ct ?_ | with_reducible refine Lf.kD_rt ?_ | with_reducible refine Lf.kD_nx ?_ | with_reducible refine Lf.kF_nx ?_ | with_reducible refine Lf.kF_ct ?_ | with_reducible refine Lf.kF_bk ?_ | with_reducible refine Lf.kF_rt ?_ | with_reducible refine Lf.v_ifT ?_ | with_reducible refine Lf.v_ifF ?_ | with_reducible refine Lf.v_ifNT ?_ | with_reducible refine Lf.v_ifNF ?_ | with_reducible refine Lf.kP_int ?_ | with_reducible refine Lf.kP_bl ?_ | with_reducible refine Lf.kP_str ?_ | with_reducible refine Lf.kP_non ?_ | with_reducible refine Lf.v_iadd ?_ | with_reducible refine Lf.Wp.ok ?_ | with_reducible refine Lf.seq_wp ?_ | with_reducible refine Lf.v_bin ?_ | with_reducible refine Lf.v_cons ?_ | with_reducible refine Lf.v_call ?_ | with_reducible refine Lf.v_ret ?_ | with_reducible refine Lf.v_set ?_ | with_reducible refine Lf.v_asg ?_ | with_reducible refine Lf.v_if ?_ | with_reducible refine Lf.v_ifE ?_ | with_reducible refine Lf.v_bl ?_ | with_reducible refine Lf.v_tru ?_ | with_reducible refine Lf.v_and ?_ | with_reducible refine Lf.v_or ?_ | with_reducible refine Lf.v_not ?_ | with_reducible refine Lf.v_andV ?_ | with_reducible refine Lf.v_orV ?_ | with_reducible refine Lf.v_notV ?_ | with_reducible refine Lf.v_c ?_ | with_reducible refine Lf.v_nil ?_ | with_reducible refine Lf.v_skip ?_ | with_reducible refine Lf.v_drop ?_ | with_reducible refine Lf.v_retN ?_ | with_reducible refine Lf.v_brk ?_ | with_reducible refine Lf.v_cnt ?_ | with_reducible refine Lf.v_nm ?_ | with_reducible refine Lf.v_gnil ?_ | with_reducible refine Lf.v_gcons ?_ | with_reducible refine Lf.v_yes ?_ | with_reducible refine Lf.v_for ?_ | with_reducible refine Lf.v_lc ?_ | with_reducible refine Lf.v_rg ?_ | with_reducible refine Lf.v_iter ?_ | with_reducible refine Lf.v_iterT ?_ | with_reducible refine Lf.v_add ?_ | with_reducible refine Lf.v_sub ?_ | with_reducible refine Lf.v_neg ?_ | with_reducible refine Lf.v_lt ?_ | with_reducible refine Lf.v_le ?_ | with_reducible refine Lf.v_gt ?_ | with_reducible refine Lf.v_ge ?_ | with_reducible refine Lf.v_eqI ?_ | with_reducible refine Lf.v_neI ?_ | with_reducible refine Lf.v_abs ?_ | with_reducible refine Lf.v_intI ?_ | with_reducible refine Lf.v_intB ?_ | with_reducible refine Lf.v_max2 ?_ | with_reducible refine Lf.v_min2 ?_ | with_reducible refine Lf.v_lenT ?_ | with_reducible refine Lf.v_lenN ?_ | with_reducible refine Lf.v_nw ?_ | with_reducible refine Lf.v_un ?_ | with_reducible refine Lf.v_tup ?_ | with_reducible refine Lf.v_lst ?_ | with_reducible refine Lf.v_par2 ?_ | with_reducible refine Lf.v_par3 ?_ | with_reducible refine Lf.v_chain ?_ | with_reducible refine Lf.v_meth ?_ | with_reducible refine Lf.v_subT ?_ | with_reducible refine Lf.v_isiIB ?_ | with_reducible refine Lf.v_isiII ?_ | with_reducible refine Lf.v_sl ?_ | with_reducible refine Lf.v_noP ?_ | with_reducible refine Lf.v_pt ?_ | with_reducible refine Lf.v_cutT ?_ | ((with_reducible apply Lf.v_var); exact rfl) | ((with_reducible refine Lf.v_kw ?_ ?_); exact rfl) | ((with_reducible apply Lf.v_iterO); first | exact rfl | assumption) | ((with_reducible apply Lf.v_lenL); first | exact rfl | assumption) | ((with_reducible refine Lf.v_unp ?_ ?_); exact rfl) | ((with_reducible apply Lf.v_aug); exact rfl) | ((with_reducible refine Lf.v_mod ?_ ?_); first | decide | omega | assumption | fail) | ((with_reducible refine Lf.v_div ?_ ?_); first | exact ⟨by decide, by decide +kernel⟩ | assumption | exact Lf.log2d (by omega) ⟨by omega, by omega⟩ | fail) | ((with_reducible refine Lf.v_mul ?_ ?_); first | exact Lf.log2m ⟨by omega, by omega⟩ ⟨by omega, by omega⟩ | exact Lf.log2m (by assumption) ⟨by omega, by omega⟩ | exact Lf.log2m ⟨by omega, by omega⟩ (by assumption) | fail) | ((with_reducible refine Lf.v_pow ?_ ?_); exact ⟨by decide, by decide, by decide⟩) | ((with_reducible refine Lf.v_rg1 ?_ ?_); first | decide | fail) | ((with_reducible apply Lf.v_ixL); (first | exact rfl | assumption | fail); (first | exact rfl | assumption | fail)) | ((with_reducible apply Lf.v_ixT); (first | exact rfl | assumption | fail)) | ((with_reducible apply Lf.v_ixN); (first | exact rfl | assumption | fail)) | with_reducible refine ⟨_, rfl, ?_⟩ | (refine ⟨_, (rfl : Lf.tru _ (Lf.U.bl _) = some _), ?_⟩) | with_reducible refine ⟨_, _, rfl, ?_⟩ | with_reducible refine ⟨_, _, _, rfl, ?_⟩ | (refine ⟨(Nat.le_of_ble_eq_true rfl : List.length _ ≤ 16777216), ?_⟩) | with_reducible refine Lf.v_enum ?_ | fail))
theorem lsA_ok {g : Nat → List U → M U} (hg : ∀ m, g (m + 1) = gDef 2 (lsA (g m))) {L : Nat} (hL : L ≤ 1000) : ∀ (d m : Nat) (xs : List U), d < m → d ≤ 6 → Pn Op Rd L d xs → ∀ (T : Sto) (Q : U → Sto → Prop), Q (.int (stp d xs)) T → Wp (kdG .pur 1 (g m) [.tup xs] T) Q := by
  intro d
  induction d using Nat.strongRecOn with
  | ind d ih =>
    intro m xs hm hd hx T Q q
    obtain ⟨m, rfl⟩ : ∃ m', m = m' + 1 := ⟨m - 1, by omega⟩
    rw [hg]
    refine purK rfl ?_ (gDef_wp ?_)
    · show (nrs xs && true) = true
      rw [hx.nrs]; rfl
    unfold lsA
    rfl'
    have hxl := hx.len
    refine wp_lcC (fun r acc T => T = [] ∧ ∃ done, xs = done ++ r ∧ acc = (done.map (cn1 (wt []) d)).map .int) ⟨rfl, [], rfl, rfl⟩ (fun x r acc T ⟨eT, done, ex, e⟩ => ?_) (fun acc T ⟨eT, done, ex, e⟩ => ?_)
    · subst eT e
      have hxx : x ∈ xs := by rw [ex]; exact List.mem_append_right _ (List.mem_cons_self ..)
      have hll : done.length < 1000 := by rw [ex] at hxl; simp at hxl; omega
      have fin : ∀ y : Int, y = cn1 (wt []) d x → ((done.map (cn1 (wt []) d)).map U.int).length < 16777216 ∧ (([] : Sto) = [] ∧ ∃ d1, xs = d1 ++ r ∧ (done.map (cn1 (wt []) d)).map U.int ++ [U.int y] = (d1.map (cn1 (wt []) d)).map U.int) := fun y hy => by
        refine ⟨by simp; omega, rfl, done ++ [x], by rw [ex]; simp, by rw [hy]; simp⟩
      rcases hx.item hxx with ho | ⟨d', k, b, rfl, rfl, hk, hb⟩
      · have h1 := cn1_op (f := wt []) (d := d) ho
        rw [wt_op ho] at h1
        obtain ⟨w, is, rfl, hw, _, _⟩ := ho
        rfl'
        refine v_ix0 ?_
        rfl'
        refine v_eqS (words7_ok w hw) lp_str ?_
        rfl'
        refine v_nod (words7_ne w hw) ?_
        refine v_c ?_
        exact fin 1 h1.symm
      · unfold lpU
        rfl'
        refine v_eqS lp_str lp_str ?_
        rfl'
        refine v_yesd rfl ?_
        rfl'
        refine ih d' (Nat.lt_succ_self _) m b (by omega) (by omega) hb _ _ ?_
        have hb2 := cnt_bd hL (wt_bd []) hb
        have sk : Sm k := sm_of (d := 0) (by decide) ⟨by have := hk.1; have := Bd_pos 0; omega, by have := hk.2; have := Bd_pos 0; omega⟩
        have sc : Sm (stp d' b) := sm_of (d := d') (by omega) ⟨by have := hb2.1; have := Bd_pos d'; unfold stp; omega, by have := hb2.2; have := Bd_pos d'; unfold stp; omega⟩
        refine v_mul (log2m sk sc) ?_
        exact fin _ cn1_lp.symm
    · subst eT e
      rw [List.append_nil] at ex
      subst ex
      rfl'
      refine v_sum (xs := (xs.map (cn1 (wt []) d)).map .int) rfl (intsU_map _) ?_
      rfl'
      have e : stp d xs = (xs.map (cn1 (wt []) d)).sum := cnt_eq _ _ _
      rw [← e]
      exact q

def leA (self : List U → M U) : FxS := fSeq (fSet 1 (fLst (fNil))) (fSeq (fFor (fIter (fVar 0)) (gNm 2) (fIf (fBl (fBin (gEq false) (fBin gIx (fVar 2) (fC (.int 0))) (fC (.str "loop")))) (fSeq (fSet 3 (fCall (kdG .pur 1 self) (fCons (fBin gIx (fVar 2) (fC (.int 2))) (fNil)))) (fFor (fRg gRg1 (fCons (fBin gMul (fBin gIx (fVar 2) (fC (.int 1))) (fCall gInt (fCons (fBin (gEq true) (fVar 3) (fLst (fNil))) (fNil)))) (fNil))) (gNm 4) (fDrop (fMeth isL gExtend (fVar 1) (fCons (fVar 3) (fNil)))))) (fDrop (fMeth isL gAppend (fVar 1) (fCons (fVar 2) (fNil)))))) (fRet (fVar 1)))
def lasA : FxS := fSeq (fIf (fBl (fBin (gEq false) (fBin gIx (fVar 0) (fC (.int 0))) (fC (.str "swap")))) (fRet (fSl (fVar 0) (fPt (fC (.int 1))) fNoP)) (fSkip)) (fRet (fIfE (fBl (fBin (gEq false) (fBin gIx (fVar 0) (fC (.int 0))) (fC (.str "write")))) (fTup (fNil)) (fSl (fVar 0) (fPt (fC (.int 1))) (fPt (fC (.int 2))))))
end Lf


set_option Elab.async false
set_option linter.all false
set_option maxRecDepth 100000
set_option maxHeartbeats 4000000
/-! ## executed, assigned of the laws -/
namespace Lf
open PySem PySem.Spec L2
local macro_rules | `(tactic| rfl') => `(tactic| repeat (first | with_reducible refine Lf.kS_nx ?_ | with_reducible refine Lf.kS_rt ?_ | with_reducible refine Lf.kS_bk ?_ | with_reducible refine Lf.kS_ct ?_ | with_reducible refine Lf.kD_rt ?_ | with_reducible refine Lf.kD_nx ?_ | with_reducible refine Lf.kF_nx ?_ | with_reducible refine Lf.kF_ct ?_ | with_reducible refine Lf.kF_bk ?_ | with_reducible refine Lf.kF_rt ?_ | with_reducible refine Lf.v_ifT ?_ | with_reducible refine Lf.v_ifF ?_ | with_reducible refine Lf.v_ifNT ?_ | with_reducible refine Lf.v_ifNF ?_ | with_reducible refine Lf.kP_int ?_ | with_reducible refine Lf.kP_bl ?_ | with_reducible refine Lf.kP_str ?_ | with_reducible refine Lf.kP_non ?_ | with_reducible refine Lf.v_iadd ?_ | with_reducible refine Lf.Wp.ok ?_ | with_reducible refine Lf.seq_wp ?_ | with_reducible refine Lf.v_bin ?_ | with_reducible refine Lf.v_cons ?_ | with_reducible refine Lf.v_call ?_ | with_reducible refine Lf.v_ret ?_ | with_reducible refine Lf.v_set ?_ | with_reducible refine Lf.v_asg ?_ | with_reducible refine Lf.v_if ?_ | with_reducible refine Lf.v_ifE ?_ | with_reducible refine Lf.v_bl ?_ | with_reducible refine Lf.v_tru ?_ | with_reducible refine Lf.v_and ?_ | with_reducible refine Lf.v_or ?_ | with_reducible refine Lf.v_not ?_ | with_reducible refine Lf.v_andV ?_ | with_reducible refine Lf.v_orV ?_ | with_reducible refine Lf.v_notV ?_ | with_reducible refine Lf.v_c ?_ | with_reducible refine Lf.v_nil ?_ | with_reducible refine Lf.v_skip ?_ | with_reducible refine Lf.v_drop ?_ | with_reducible refine Lf.v_retN ?_ | with_reducible refine Lf.v_brk ?_ | with_reducible refine Lf.v_cnt ?_ | with_reducible refine Lf.v_nm ?_ | with_reducible refine Lf.v_gnil ?_ | with_reducible refine Lf.v_gcons ?_ | with_reducible refine Lf.v_yes ?_ | with_reducible refine Lf.v_for ?_ | with_reducible refine Lf.v_lc ?_ | with_reducible refine Lf.v_rg ?_ | with_reducible refine Lf.v_iter ?_ | with_reducible refine Lf.v_iterT ?_ | with_reducible refine Lf.v_add ?_ | with_reducible refine Lf.v_sub ?_ | with_reducible refine Lf.v_neg ?_ | with_reducible refine Lf.v_lt ?_ | with_reducible refine Lf.v_le ?_ | with_reducible refine Lf.v_gt ?_ | with_reducible refine Lf.v_ge ?_ | with_reducible refine Lf.v_eqI ?_ | with_reducible refine Lf.v_neI ?_ | with_reducible refine Lf.v_abs ?_ | with_reducible refine Lf.v_intI ?_ | with_reducible refine Lf.v_intB ?_ | with_reducible refine Lf.v_max2 ?_ | with_reducible refine Lf.v_min2 ?_ | with_reducible refine Lf.v_lenT ?_ | with_reducible refine Lf.v_lenN ?_ | with_reducible refine Lf.v_nw ?_ | with_reducible refine Lf.v_un ?_ | with_reducible refine Lf.v_tup ?_ | with_reducible refine Lf.v_lst ?_ | with_reducible refine Lf.v_par2 ?_ | with_reducible refine Lf.v_par3 ?_ | with_reducible refine Lf.v_chain ?_ | with_reducible refine Lf.v_meth ?_ | with_reducible refine Lf.v_subT ?_ | with_reducible refine Lf.v_isiIB ?_ | with_reducible refine Lf.v_isiII ?_ | with_reducible refine Lf.v_sl ?_ | with_reducible refine Lf.v_noP ?_ | with_reducible refine Lf.v_pt ?_ | with_reducible refine Lf.v_cutT ?_ | ((with_reducible apply Lf.v_var); exact rfl) | ((with_reducible refine Lf.v_kw ?_ ?_); exact rfl) | ((with_reducible apply Lf.v_iterO); first | exact rfl | assumption) | ((with_reducible apply Lf.v_lenL); first | exact rfl | assumption) | ((with_reducible refine Lf.v_unp ?_ ?_); exact rfl) | ((with_reducible apply Lf.v_aug); exact rfl) | ((with_reducible refine Lf.v_mod ?_ ?_); first | decide | omega | assumption | fail) | ((with_reducible refine Lf.v_div ?_ ?_); first | exact ⟨by decide, by decide +kernel⟩ | assumption | exact Lf.log2d (by omega) ⟨by omega, by omega⟩ | fail) | ((with_reducible refine Lf.v_mul ?_ ?_); first | exact Lf.log2m ⟨by omega, by omega⟩ ⟨by omega, by omega⟩ | exact Lf.log2m (by assumption) ⟨by omega, by omega⟩ | exact Lf.log2m ⟨by omega, by omega⟩ (by assumption) | fail) | ((with_reducible refine Lf.v_pow ?_ ?_); exact ⟨by decide, by decide, by decide⟩) | ((with_reducible refine Lf.v_rg1 ?_ ?_); first | decide | fail) | ((with_reducible apply Lf.v_ixL); (first | exact rfl | assumption | fail); (first | exact rfl | assumption | fail)) | ((with_reducible apply Lf.v_ixT); (first | exact rfl | assumption | fail)) | ((with_reducible apply Lf.v_ixN); (first | exact rfl | assumption | fail)) | with_reducible refine ⟨_, rfl, ?_⟩ | (refine ⟨_, (rfl : Lf.tru _ (Lf.U.bl _) = some _), ?_⟩) | with_reducible refine ⟨_, _, rfl, ?_⟩ | with_reducible refine ⟨_, _, _, rfl, ?_⟩ | (refine ⟨(Nat.le_of_ble_eq_true rfl : List.length _ ≤ 16777216), ?_⟩) | with_reducible refine Lf.v_enum ?_ | fail))
theorem leA_ok {g : Nat → List U → M U} (hg : ∀ m, g (m + 1) = gDef 5 (leA (g m))) {N : Int} (hN : N ≤ 4000000) : ∀ (d m : Nat) (xs : List U), d < m → Ps N d xs → ∀ (T : Sto) (Q : U → Sto → Prop), Q (.ob T.length) (T ++ [.lst (flt d xs)]) → Wp (kdG .pur 1 (g m) [.tup xs] T) Q := by
  intro d
  induction d using Nat.strongRecOn with
  | ind d ih =>
    intro m xs hm hx T Q q
    obtain ⟨m, rfl⟩ : ∃ m', m = m' + 1 := ⟨m - 1, by omega⟩
    obtain ⟨f1, f2, f3⟩ := Ps.flt hx
    have ht := hx.tot
    rw [hg]
    refine purK rfl ?_ (gDef_wp ?_)
    · show (nrs xs && true) = true
      rw [f3]; rfl
    unfold leA
    rfl'
    refine wp_forC (fun r η T => ∃ done o2 o3 o4, xs = done ++ r ∧ η = [some (.tup xs), some (.ob 0), o2, o3, o4] ∧ T[0]? = some (.lst (flt d done))) ⟨[], _, _, _, rfl, rfl, by rw [flt_nil]; rfl⟩ (fun x r η T1 ⟨done, o2, o3, o4, ex, e, hT⟩ => ?_) (fun η T1 ⟨done, o2, o3, o4, ex, e, hT⟩ => ?_)
    · subst e
      have hxx : x ∈ xs := by rw [ex]; exact List.mem_append_right _ (List.mem_cons_self ..)
      have enx : xs = (done ++ [x]) ++ r := by rw [ex]; simp
      have p1 := stp_part (done := done ++ [x]) (r := r) (by rw [← enx]; exact hx)
      rw [← enx] at p1
      have p2 : stp d (done ++ [x]) = stp d done + cn1 (wt []) d x := by show cnt _ _ _ = cnt _ _ _ + _; rw [cnt_app, cnt_one]
      have p3 := stp_part (done := done) (r := x :: r) (by rw [← ex]; exact hx)
      rw [← ex] at p3
      have fl : ((flt d done).length : Int) = stp d done := by
        have hd : Ps N d done := by
          have ha : ∀ y ∈ done, y ∈ xs := fun y hy => by rw [ex]; exact List.mem_append_left _ hy
          have hs : stp d done ≤ N := by omega
          cases d with
          | zero =>
            refine ⟨?_, fun y hy => hx.2 y (ha y hy)⟩
            have := hx.1
            rw [ex] at this
            simp at this
            omega
          | succ d => exact ⟨hs, fun y hy => hx.2 y (ha y hy)⟩
        exact (Ps.flt hd).1
      have isl : ∀ T2 : Sto, T2[0]? = some (.lst (flt d done)) → isL T2 (.ob 0) = true := fun T2 h => by unfold isL; simp only [h]
      rcases hx.item hxx with ho | ⟨d', k, b, rfl, rfl, hk, hk2, hb⟩
      · have e1 := flt_op (d := d) ho
        rw [cn1_op ho, wt_op ho] at p2
        obtain ⟨w, is, rfl, hw, _, _⟩ := ho
        rfl'
        refine v_ix0 ?_
        rfl'
        refine v_eqS (words7_ok w hw) lp_str ?_
        rfl'
        refine v_nod (words7_ne w hw) ?_
        rfl'
        refine ⟨isl _ hT, ?_⟩
        rfl'
        refine v_app hT ⟨by omega, ?_⟩
        rfl'
        exact ⟨_, _, _, _, enx, rfl, by rw [List.getElem?_set_self (lt_at hT), flt_app, e1]⟩
      · obtain ⟨b1, b2, b3⟩ := Ps.flt hb
        rw [cn1_lp] at p2
        unfold lpU
        rfl'
        refine v_eqS lp_str lp_str ?_
        rfl'
        refine v_yesd rfl ?_
        rfl'
        refine ih d' (Nat.lt_succ_self _) m b (by omega) hb _ _ ?_
        have hB : stp d' b ≤ N := hb.tot
        have hT2 : (T1 ++ [O.lst (flt d' b)])[0]? = some (.lst (flt (d' + 1) done)) := by rw [List.getElem?_append_left (lt_at hT)]; exact hT
        have hb2 : (T1 ++ [O.lst (flt d' b)])[T1.length]? = some (.lst (flt d' b)) := by simp
        have hj0 : T1.length ≠ 0 := Nat.ne_of_gt (lt_at hT)
        generalize T1 ++ [O.lst (flt d' b)] = T2 at hT2 hb2 ⊢
        generalize T1.length = jb at hb2 hj0 ⊢
        rfl'
        have hT3 : (T2 ++ [O.lst []])[0]? = some (.lst (flt (d' + 1) done)) := by rw [List.getElem?_append_left (lt_at hT2)]; exact hT2
        have hb3 : (T2 ++ [O.lst []])[jb]? = some (.lst (flt d' b)) := by rw [List.getElem?_append_left (lt_at hb2)]; exact hb2
        have he3 : (T2 ++ [O.lst []])[T2.length]? = some (.lst []) := by simp
        have hjb : jb ≠ 0 := fun z => by
          subst z
          exact hj0 rfl
        generalize T2.length = je at he3 ⊢
        generalize T2 ++ [O.lst []] = T3 at hT3 hb3 he3 ⊢
        obtain ⟨ds, d1, d2, d3, d4⟩ := ops_dat (T := T3) (n := 63) (flt d' b) b2
        have da : dat T3 66 (.ob jb) = some (.list ds) := by
          show (match T3[jb]? with
            | some (.lst xs) => (dats (dat T3 65) xs).map PyData.list
            | _ => none) = _
          rw [hb3]
          show (dats (dat T3 65) (flt d' b)).map PyData.list = _
          rw [d1]; rfl
        have de : dat T3 66 (.ob je) = some (.list []) := by
          show (match T3[je]? with
            | some (.lst xs) => (dats (dat T3 65) xs).map PyData.list
            | _ => none) = _
          rw [he3]; rfl
        refine v_neD da de (by simp [SeqAt.shaped, PyData.canLay0, PyData.depth, d2]; omega) (by decide +kernel) ?_
        rfl'
        have rl := rep_len k.toNat (flt d' b)
        rw [b1, Int.toNat_of_nonneg hk] at rl
        have em : ∀ z : Bool, k * (if z = true then 1 else 0) = if z = true then k else 0 := by intro z; cases z <;> simp
        rw [em]
        refine v_rg1 (small62_of (by split <;> omega) (by split <;> omega)) ?_
        have goal2 : ∀ z : Bool, ((List.replicate (if z = true then k else 0).toNat (flt d' b)).flatten = (List.replicate k.toNat (flt d' b)).flatten) → Wp (forN (gNm 4) (fDrop (fMeth isL gExtend (fVar 1) (fCons (fVar 3) fNil))) (constI (rgU 0 (if z = true then k else 0).toNat)).fin (constI (rgU 0 (if z = true then k else 0).toNat)).its [some (.tup xs), some (.ob 0), some (lpU k b), some (.ob jb), o4] T3)
            fun p T => ∃ o4, p = (.nx, [some (.tup xs), some (.ob 0), some (lpU k b), some (.ob jb), o4]) ∧ T[0]? = some (.lst (flt (d' + 1) (done ++ [lpU k b]))) := fun z hz => by
          have hzk : (if z = true then k else 0).toNat ≤ k.toNat := by split <;> omega
          refine wp_forC (fun r η T => ∃ (j : Nat) (o4 : Option U), j + r.length = (if z = true then k else 0).toNat ∧ η = [some (.tup xs), some (.ob 0), some (lpU k b), some (.ob jb), o4] ∧ T[0]? = some (.lst (flt (d' + 1) done ++ (List.replicate j (flt d' b)).flatten)) ∧ T[jb]? = some (.lst (flt d' b))) ⟨0, o4, by rw [rgU_len]; omega, rfl, by simpa using hT3, hb3⟩ (fun y r η T ⟨j, o4, hj, e, h0, hb0⟩ => ?_) (fun η T ⟨j, o4, hj, e, h0, hb0⟩ => ?_)
          · subst e
            rw [List.length_cons] at hj
            have lj := rep_len j (flt d' b)
            rw [b1] at lj
            have ljk : (j : Int) * stp d' b ≤ k * stp d' b := Int.mul_le_mul_of_nonneg_right (by omega) (by unfold stp at *; omega)
            have lj1 : ((j : Int) + 1) * stp d' b ≤ k * stp d' b := Int.mul_le_mul_of_nonneg_right (by omega) (by unfold stp at *; omega)
            rw [Int.add_mul] at lj1
            rfl'
            refine ⟨isl_at h0, ?_⟩
            rfl'
            refine v_ext h0 hb0 ⟨?_, ?_⟩
            · rw [List.length_append]
              unfold stp at *
              omega
            · exact ⟨j + 1, _, by omega, rfl, by rw [List.getElem?_set_self (lt_at h0), List.append_assoc, ← rep_s'], by rw [List.getElem?_set_ne (Ne.symm hjb)]; exact hb0⟩
          · subst e
            rw [List.length_nil, Nat.add_zero] at hj
            refine ⟨_, rfl, ?_⟩
            rw [h0, hj, hz, flt_app, flt_lp]
        refine Wp.mono (goal2 _ ?_) fun p T ⟨o4, ep, h0⟩ => ?_
        · by_cases hne : flt d' b = []
          · rw [hne]; simp
          · have hds : ds ≠ [] := fun z => by
              rw [z] at d4
              exact hne (List.length_eq_zero_iff.mp d4.symm)
            have : (!PyData.eqv (.list ds) (.list [])) = true := by
              cases ds with
              | nil => exact absurd rfl hds
              | cons e ds => simp [PyData.eqv, PyData.eqvAll]
            rw [this]; rfl
        · subst ep
          rfl'
          exact ⟨_, _, _, _, enx, rfl, h0⟩
    · subst e
      rw [List.append_nil] at ex
      subst ex
      rfl'
      refine kP_ob hT ?_ q
      exact nrs_of fun x hx => nr_op (f2 x hx)
/-- the registers that an instruction assigns -/
def asgL : U → List Int
  | .tup [.str w, .int a] => if w = "write" then [] else [a]
  | .tup [.str w, .int a, .int c] => if w = "swap" then [a, c] else [a]
  | .tup [.str _, .int a, .int _, .int _] => [a]
  | _ => []
theorem asgL_ne {w : Str} {a c : Int} (h : w ≠ "swap") : asgL (.tup [.str w, .int a, .int c]) = [a] := by
  show (if w = Str.ofString "swap" then [a, c] else [a]) = _
  rw [if_neg h]
theorem asgL_mem {p n : Int} {ws : List Str} {x : U} (h : OpOk p n ws x) {r : Int} : asgU r x = true ↔ r ∈ asgL x := by
  rcases h with ⟨w, a, c, rfl, hw, _⟩ | ⟨w, a, rfl, hw, _⟩ | ⟨a, b, c, rfl, _⟩ | ⟨w, a, b, rfl, hw, _⟩
  · have hne : w ≠ "swap" := by rcases hw with rfl | rfl <;> decide +kernel
    rw [asgU_ne hne, asgL_ne hne, decide_eq_true_eq, List.mem_singleton]; exact eq_comm
  · rcases hw with rfl | rfl
    · show (decide (Str.ofString "read" ≠ Str.ofString "write") && decide (a = r)) = true ↔ r ∈ (if Str.ofString "read" = Str.ofString "write" then [] else [a])
      rw [if_neg (by decide +kernel), decide_eq_true (by decide +kernel), Bool.true_and, decide_eq_true_eq, List.mem_singleton]; exact eq_comm
    · show (decide (Str.ofString "write" ≠ Str.ofString "write") && decide (a = r)) = true ↔ r ∈ (if Str.ofString "write" = Str.ofString "write" then [] else [a])
      rw [if_pos rfl, decide_eq_false (by decide +kernel)]; simp
  · show decide (a = r) = true ↔ r ∈ [a]
    rw [decide_eq_true_eq, List.mem_singleton]; exact eq_comm
  · rcases hw with rfl | rfl
    · rw [asgU_ne (by decide +kernel), asgL_ne (by decide +kernel), decide_eq_true_eq, List.mem_singleton]; exact eq_comm
    · show (if Str.ofString "swap" = Str.ofString "swap" then (decide (a = r) || decide (b = r)) else decide (a = r)) = true ↔ r ∈ (if Str.ofString "swap" = Str.ofString "swap" then [a, b] else [a])
      rw [if_pos rfl, if_pos rfl, Bool.or_eq_true, decide_eq_true_eq, decide_eq_true_eq, List.mem_cons, List.mem_singleton]; exact or_congr eq_comm eq_comm
local macro_rules | `(tactic| bv_omega) => `(tactic| repeat (first | with_reducible refine Lf.kS_nx ?_ | with_reducible refine Lf.kS_rt ?_ | with_reducible refine Lf.kS_bk ?_ | with_reducible refine Lf.kS_ct ?_ | with_reducible refine Lf.kD_rt ?_ | with_reducible refine Lf.kD_nx ?_ | with_reducible refine Lf.kF_nx ?_ | with_reducible refine Lf.kF_ct ?_ | with_reducible refine Lf.kF_bk ?_ | with_reducible refine Lf.kF_rt ?_ | with_reducible refine Lf.v_ifT ?_ | with_reducible refine Lf.v_ifF ?_ | with_reducible refine Lf.v_ifNT ?_ | with_reducible refine Lf.v_ifNF ?_ | with_reducible refine Lf.kP_int ?_ | with_reducible refine Lf.kP_bl ?_ | with_reducible refine Lf.kP_str ?_ | with_reducible refine Lf.kP_non ?_ | with_reducible refine Lf.v_iadd ?_ | with_reducible refine Lf.Wp.ok ?_ | with_reducible refine Lf.seq_wp ?_ | with_reducible refine Lf.v_bin ?_ | with_reducible refine Lf.v_cons ?_ | with_reducible refine Lf.v_call ?_ | with_reducible refine Lf.v_ret ?_ | with_reducible refine Lf.v_set ?_ | with_reducible refine Lf.v_asg ?_ | with_reducible refine Lf.v_if ?_ | with_reducible refine Lf.v_ifE ?_ | with_reducible refine Lf.v_bl ?_ | with_reducible refine Lf.v_tru ?_ | with_reducible refine Lf.v_and ?_ | with_reducible refine Lf.v_or ?_ | with_reducible refine Lf.v_not ?_ | with_reducible refine Lf.v_andV ?_ | with_reducible refine Lf.v_orV ?_ | with_reducible refine Lf.v_notV ?_ | with_reducible refine Lf.v_c ?_ | with_reducible refine Lf.v_nil ?_ | with_reducible refine Lf.v_skip ?_ | with_reducible refine Lf.v_drop ?_ | with_reducible refine Lf.v_retN ?_ | with_reducible refine Lf.v_brk ?_ | with_reducible refine Lf.v_cnt ?_ | with_reducible refine Lf.v_nm ?_ | with_reducible refine Lf.v_gnil ?_ | with_reducible refine Lf.v_gcons ?_ | with_reducible refine Lf.v_yes ?_ | with_reducible refine Lf.v_for ?_ | with_reducible refine Lf.v_lc ?_ | with_reducible refine Lf.v_rg ?_ | with_reducible refine Lf.v_iter ?_ | with_reducible refine Lf.v_iterT ?_ | with_reducible refine Lf.v_add ?_ | with_reducible refine Lf.v_sub ?_ | with_reducible refine Lf.v_neg ?_ | with_reducible refine Lf.v_lt ?_ | with_reducible refine Lf.v_le ?_ | with_reducible refine Lf.v_gt ?_ | with_reducible refine Lf.v_ge ?_ | with_reducible refine Lf.v_eqI ?_ | with_reducible refine Lf.v_neI ?_ | with_reducible refine Lf.v_abs ?_ | with_reducible refine Lf.v_intI ?_ | with_reducible refine Lf.v_intB ?_ | with_reducible refine Lf.v_max2 ?_ | with_reducible refine Lf.v_min2 ?_ | with_reducible refine Lf.v_lenT ?_ | with_reducible refine Lf.v_lenN ?_ | with_reducible refine Lf.v_nw ?_ | with_reducible refine Lf.v_un ?_ | with_reducible refine Lf.v_tup ?_ | with_reducible refine Lf.v_lst ?_ | with_reducible refine Lf.v_par2 ?_ | with_reducible refine Lf.v_par3 ?_ | with_reducible refine Lf.v_chain ?_ | with_reducible refine Lf.v_meth ?_ | with_reducible refine Lf.v_subT ?_ | with_reducible refine Lf.v_isiIB ?_ | with_reducible refine Lf.v_isiII ?_ | with_reducible refine Lf.v_sl ?_ | with_reducible refine Lf.v_noP ?_ | with_reducible refine Lf.v_pt ?_ | with_reducible refine Lf.v_cutT ?_ | ((with_reducible apply Lf.v_var); exact rfl) | ((with_reducible refine Lf.v_kw ?_ ?_); exact rfl) | ((with_reducible apply Lf.v_iterO); first | exact rfl | assumption) | ((with_reducible apply Lf.v_lenL); first | exact rfl | assumption) | ((with_reducible refine Lf.v_unp ?_ ?_); exact rfl) | ((with_reducible apply Lf.v_aug); exact rfl) | ((with_reducible refine Lf.v_mod ?_ ?_); first | decide | omega | assumption | fail) | ((with_reducible refine Lf.v_div ?_ ?_); first | exact ⟨by decide, by decide +kernel⟩ | assumption | exact Lf.log2d (by omega) ⟨by omega, by omega⟩ | fail) | ((with_reducible refine Lf.v_mul ?_ ?_); first | exact Lf.log2m ⟨by omega, by omega⟩ ⟨by omega, by omega⟩ | exact Lf.log2m (by assumption) ⟨by omega, by omega⟩ | exact Lf.log2m ⟨by omega, by omega⟩ (by assumption) | fail) | ((with_reducible refine Lf.v_pow ?_ ?_); exact ⟨by decide, by decide, by decide⟩) | ((with_reducible refine Lf.v_rg1 ?_ ?_); first | decide | fail) | ((with_reducible apply Lf.v_ixL); (first | exact rfl | assumption | fail); (first | exact rfl | assumption | fail)) | ((with_reducible apply Lf.v_ixT); (first | exact rfl | assumption | fail)) | ((with_reducible apply Lf.v_ixN); (first | exact rfl | assumption | fail)) | with_reducible refine ⟨_, rfl, ?_⟩ | (refine ⟨_, (rfl : Lf.tru _ (Lf.U.bl _) = some _), ?_⟩) | with_reducible refine ⟨_, _, rfl, ?_⟩ | with_reducible refine ⟨_, _, _, rfl, ?_⟩ | (refine ⟨(Nat.le_of_ble_eq_true rfl : List.length _ ≤ 16777216), ?_⟩) | with_reducible refine Lf.v_enum ?_ | with_reducible refine Lf.v_eqS0 ?_ | with_reducible refine Lf.v_neT ?_ | with_reducible refine Lf.v_ix0 ?_ | with_reducible refine Lf.v_tupleT ?_ | with_reducible refine Lf.v_listT ?_ | with_reducible refine Lf.v_revT ?_ | with_reducible refine Lf.v_dic0 ?_ | with_reducible refine Lf.v_dic1 ?_ | ((with_reducible apply Lf.isl_and); (first | exact rfl | assumption | fail)) | ((with_reducible apply Lf.v_appZ); (first | exact rfl | assumption | fail); (first | omega | (simp only [List.length_append, List.length_map, List.length_cons, List.length_nil]; omega) | (simp; omega) | fail)) | ((with_reducible apply Lf.v_tupleL); (first | exact rfl | assumption | fail)) | ((with_reducible apply Lf.v_listL); (first | exact rfl | assumption | fail)) | ((with_reducible refine Lf.v_yesd ?_ ?_); (first | (with_reducible rfl) | assumption | (exact fun z => z rfl) | decide +kernel | omega | fail)) | ((with_reducible refine Lf.v_nod ?_ ?_); (first | (with_reducible rfl) | assumption | (exact fun z => z rfl) | decide +kernel | omega | fail)) | ((with_reducible refine Lf.v_yesn ?_ ?_); (first | (with_reducible rfl) | assumption | (exact fun z => z rfl) | decide +kernel | omega | fail)) | ((with_reducible refine Lf.v_non ?_ ?_); (first | (with_reducible rfl) | assumption | (exact fun z => z rfl) | decide +kernel | omega | fail)) | ((with_reducible refine Lf.kP_tup ?_ ?_); first | exact rfl | exact Lf.nrs_ints _ | assumption | fail) | ((with_reducible refine Lf.v_rg1 ?_ ?_); exact Lf.small62_of (by omega) (by omega)) | fail))
theorem lasA_ok {g : List U → M U} (hg : g = gDef 1 lasA) {p n : Int} {ws : List Str} {x : U} (h : OpOk p n ws x) {T : Sto} {Q : U → Sto → Prop} (q : Q (.tup ((asgL x).map .int)) T) : Wp (kdG .pur 1 g [x] T) Q := by
  subst hg
  have hnr : nr x = true := by
    rcases h with ⟨w, a, c, rfl, _⟩ | ⟨w, a, rfl, _⟩ | ⟨a, b, c, rfl, _⟩ | ⟨w, a, b, rfl, _⟩ <;> rfl
  refine purK rfl ?_ (gDef_wp ?_)
  · show (nr x && true) = true
    rw [hnr]; rfl
  unfold lasA
  have ec : ∀ (w : U) (a : Int) (l : List U), cutU (w :: .int a :: l) (some 1) (some 2) = [.int a] := fun w a l => cut_one [w] l (.int a) (i := 1) rfl
  rcases h with ⟨w, a, c, rfl, hw, _⟩ | ⟨w, a, rfl, hw, _⟩ | ⟨a, b, c, rfl, _⟩ | ⟨w, a, b, rfl, hw, _⟩
  · rcases hw with rfl | rfl
    · rw [asgL_ne (by decide +kernel)] at q
      bv_omega
      rw [ec]
      bv_omega
      exact q
    · rw [asgL_ne (by decide +kernel)] at q
      bv_omega
      rw [ec]
      bv_omega
      exact q
  · rcases hw with rfl | rfl
    · have e : asgL (.tup [.str "read", .int a]) = [a] := by
        show (if Str.ofString "read" = Str.ofString "write" then [] else [a]) = _
        rw [if_neg (by decide +kernel)]
      rw [e] at q
      bv_omega
      rw [ec]
      bv_omega
      exact q
    · have e : asgL (.tup [.str "write", .int a]) = [] := by
        show (if Str.ofString "write" = Str.ofString "write" then [] else [a]) = _
        rw [if_pos rfl]
      rw [e] at q
      bv_omega
      exact q
  · bv_omega
    rw [ec]
    bv_omega
    exact q
  · rcases hw with rfl | rfl
    · rw [asgL_ne (by decide +kernel)] at q
      bv_omega
      rw [ec]
      bv_omega
      exact q
    · have e : asgL (.tup [.str "swap", .int a, .int b]) = [a, b] := by
        show (if Str.ofString "swap" = Str.ofString "swap" then [a, b] else [a]) = _
        rw [if_pos rfl]
      rw [e] at q
      have ec2 : cutU [U.str (Str.ofString "swap"), U.int a, U.int b] (some 1) none = [.int a, .int b] := (cut_drop _ (i := 1) (n := 1) rfl).trans rfl
      bv_omega
      rw [ec2]
      bv_omega
      exact q
end Lf


set_option Elab.async false
set_option linter.all false
set_option maxRecDepth 100000
set_option maxHeartbeats 4000000
/-! ## steps of drawn programs, comprehensions by index -/
namespace Lf
open PySem PySem.Spec L2
/-- how many steps at most, loops of at most K rounds -/
def bdK (K : Int) : Nat → Int → Int
  | 0, l => l
  | d + 1, l => l * (1 + K * bdK K d (l / 2))
theorem bdK_nn {K : Int} (hK : 0 ≤ K) : ∀ d (l : Int), 0 ≤ l → 0 ≤ bdK K d l
  | 0, l, h => h
  | d + 1, l, h => Int.mul_nonneg h (by have := Int.mul_nonneg hK (bdK_nn hK d (l / 2) (by omega)); omega)
theorem Pr.stK {A : U → Prop} {R : Int → Prop} {K : Int} (hA : ∀ x, A x → Op x) (hK : 1 ≤ K) (hK2 : K ≤ 1000000) (hR : ∀ k, R k → 0 ≤ k ∧ k ≤ K) : ∀ {d : Nat} {l : Int} {xs : List U}, 0 ≤ l → Pr A R d l xs → 0 ≤ stp d xs ∧ stp d xs ≤ bdK K d l ∧ (∀ N, bdK K d l ≤ N → Ps N d xs)
  | 0, l, xs, hl, h => by
    have e : ((xs.length : Nat) : Int) = stp 0 xs := (Ps.flt (N := l) (d := 0) ⟨h.1, fun x hx => hA x (h.2 x hx)⟩).1
    have := h.1
    unfold bdK
    exact ⟨by omega, by omega, fun N hN => ⟨by omega, fun x hx => hA x (h.2 x hx)⟩⟩
  | d + 1, l, xs, hl, h => by
    have hB := bdK_nn (K := K) (by omega) d (l / 2) (by omega)
    have hKB := Int.mul_nonneg (a := K) (by omega) hB
    have hBK : bdK K d (l / 2) ≤ K * bdK K d (l / 2) := by
      have := Int.mul_le_mul_of_nonneg_right (a := 1) (b := K) (c := bdK K d (l / 2)) hK hB
      omega
    have hitem : ∀ x ∈ xs, Op x ∨ ∃ k b, x = lpU k b ∧ 0 ≤ k ∧ k ≤ K ∧ 0 ≤ stp d b ∧ stp d b ≤ bdK K d (l / 2) ∧ ∀ N, bdK K d (l / 2) ≤ N → Ps N d b := fun x hx => by
      rcases h.2 x hx with h | ⟨k, b, e, hk, hb⟩
      · exact .inl (hA x h)
      · have := hR k hk
        have hs := Pr.stK hA hK hK2 hR (by omega) hb
        exact .inr ⟨k, b, e, this.1, this.2, hs.1, hs.2.1, hs.2.2⟩
    have hs := sum_bd (f := cn1 (wt []) (d + 1)) (M := 1 + K * bdK K d (l / 2)) xs fun x hx => by
      rcases hitem x hx with ho | ⟨k, b, rfl, k0, k1, s0, s1, _⟩
      · rw [cn1_op ho, wt_op ho]; omega
      · rw [cn1_lp]
        have h1 : k * stp d b ≤ K * bdK K d (l / 2) := Int.mul_le_mul k1 s1 s0 (by omega)
        have h0 := Int.mul_nonneg k0 s0
        unfold stp at *
        omega
    have e : stp (d + 1) xs = (xs.map (cn1 (wt []) (d + 1))).sum := cnt_eq _ _ _
    rw [← e] at hs
    have hlen : (xs.length : Int) ≤ l := h.1
    have hm : (xs.length : Int) * (1 + K * bdK K d (l / 2)) ≤ l * (1 + K * bdK K d (l / 2)) := Int.mul_le_mul_of_nonneg_right hlen (by omega)
    show 0 ≤ stp (d + 1) xs ∧ stp (d + 1) xs ≤ l * (1 + K * bdK K d (l / 2)) ∧ ∀ N, l * (1 + K * bdK K d (l / 2)) ≤ N → Ps N (d + 1) xs
    refine ⟨hs.1, by omega, fun N hN => ⟨by omega, fun x hx => ?_⟩⟩
    have h1 : 1 ≤ l := by
      have := List.length_pos_of_mem hx
      omega
    have h2 : 1 * (1 + K * bdK K d (l / 2)) ≤ l * (1 + K * bdK K d (l / 2)) := Int.mul_le_mul_of_nonneg_right h1 (by omega)
    rcases hitem x hx with ho | ⟨k, b, e, k0, k1, s0, s1, hp⟩
    · exact .inl ho
    · exact .inr ⟨k, b, e, k0, by omega, hp N (by omega)⟩
theorem Pr.sub {A : U → Prop} {R : Int → Prop} {d : Nat} {l : Int} {xs ys : List U} (h : Pr A R d l xs) (hs : ∀ y ∈ ys, y ∈ xs) (hl : (ys.length : Int) ≤ l) : Pr A R d l ys :=
  Pr.mk hl fun y hy => h.item (hs y hy)
/-- a comprehension, item by item: what is made at each place -/
theorem wp_lcI {G : U → Lo → M Lo} {Ft : FxT} {Fe : FxE} {η : Lo} {xs : List U} (F : Nat → U) (P : Sto → Prop) {Q : U → Sto → Prop} {T : Sto} (hP : P T) (hl : xs.length ≤ 16777216)
    (step : ∀ i x T, xs[i]? = some x → P T → Wp (G x η T) fun η1 T1 => Wp (Ft η1 T1) fun b T2 => b = true ∧ Wp (Fe η1 T2) fun y T3 => y = F i ∧ P T3)
    (hend : ∀ T, P T → Q (.ob T.length) (T ++ [.lst ((List.range xs.length).map F)])) : Wp (lcN G Ft Fe (constI xs).fin η (constI xs).its [] T) Q := by
  refine wp_lcC (fun r acc T => P T ∧ ∃ j, j + r.length = xs.length ∧ r = xs.drop j ∧ acc = (List.range j).map F) ⟨hP, 0, Nat.zero_add _, rfl, rfl⟩ (fun x r acc T ⟨hP, j, hj, hr, ha⟩ => ?_) (fun acc T ⟨hP, j, hj, hr, ha⟩ => ?_)
  · rw [List.length_cons] at hj
    have hj2 : j < xs.length := by omega
    rw [List.drop_eq_getElem_cons hj2] at hr
    have hx : x = xs[j] := (List.cons.inj hr).1
    have hr2 : r = xs.drop (j + 1) := (List.cons.inj hr).2
    refine (step j x T (by rw [hx, List.getElem?_eq_getElem hj2]) hP).mono fun η1 T1 h => h.mono fun b T2 h => ⟨fun _ => h.2.mono fun y T3 h => ?_, fun hb => ?_⟩
    · rw [ha, h.1]
      refine ⟨by rw [List.length_map, List.length_range]; omega, h.2, j + 1, by omega, hr2, ?_⟩
      rw [List.range_succ, List.map_append]; rfl
    · rw [h.1] at hb; cases hb
  · rw [List.length_nil, Nat.add_zero] at hj
    rw [ha, hj]
    exact hend T hP
theorem rgU_at {lo : Int} {n i : Nat} {x : U} (h : (rgU lo n)[i]? = some x) : x = .int (lo + (i : Nat)) ∧ i < n := by
  unfold rgU at h
  rw [List.getElem?_map] at h
  obtain ⟨j, q, rfl⟩ := Option.map_eq_some_iff.mp h
  obtain rfl := range_at q
  exact ⟨rfl, by have := (List.getElem?_eq_some_iff.mp q).1; simpa using this⟩
theorem setIt_at {k : Nat} {xs : List U} {a : Int} {v : U} {T : Sto} (h : T[k]? = some (.lst xs)) (h0 : 0 ≤ a) (h1 : a < xs.length) : gSetIt (.ob k) (.int a) v T = some (T.set k (.lst (xs.set a.toNat v))) := by
  have e : ixN xs.length a = some a.toNat := by
    unfold ixN
    rw [if_pos h0, if_pos h1]
  unfold gSetIt
  simp only [h, e]
theorem set_range {n a : Nat} {F : Nat → U} {v : U} : ((List.range n).map F).set a v = (List.range n).map (fun i => if i = a then v else F i) := by
  apply List.ext_getElem?
  intro i
  by_cases hi : i < n
  · by_cases ha : a = i
    · subst ha
      rw [List.getElem?_set_self (by simpa using hi)]
      simp [hi]
    · rw [List.getElem?_set_ne ha]
      simp [hi, Ne.symm ha]
  · rw [List.getElem?_eq_none (by simp; omega), List.getElem?_eq_none (by simp; omega)]
end Lf


set_option Elab.async false
set_option linter.all false
set_option maxRecDepth 100000
set_option maxHeartbeats 4000000
/-! ## the steps of a program as a list; more of last places -/
namespace Lf
open PySem PySem.Spec L2
theorem rep_get {α : Type} (B : List α) : ∀ (k t s : Nat), t < k → s < B.length → (List.replicate k B).flatten[t * B.length + s]? = B[s]?
  | 0, _, _, h, _ => absurd h (Nat.not_lt_zero _)
  | k + 1, 0, s, _, h => by
    rw [List.replicate_succ, List.flatten_cons, Nat.zero_mul, Nat.zero_add, List.getElem?_append_left h]
  | k + 1, t + 1, s, ht, h => by
    rw [List.replicate_succ, List.flatten_cons, List.getElem?_append_right (by rw [Nat.succ_mul]; omega)]
    rw [show (t + 1) * B.length + s - B.length = t * B.length + s by rw [Nat.succ_mul]; omega]
    exact rep_get B k t s (by omega) h
theorem At.flt_at {L : Nat} (hL : L ≤ 1000) {d : Nat} {xs : List U} {P : List Int} {s : Int} {it : U} (a : At d xs P s it) : Pn Op Rd L d xs → (flt d xs)[s.toNat]? = some it := by
  induction a with
  | @op d done r x ho =>
    intro h
    have hl := flt_len (R := Rd) (fun k h => h.1) h.part
    rw [flt_app, ← hl, Int.toNat_natCast, List.getElem?_append_right (Nat.le_refl _), Nat.sub_self, flt_cons, flt_op ho]
    rfl
  | @lp d done b r k t s P it ht hk a ih =>
    intro h
    obtain ⟨hr, hb⟩ := h.inner
    have hl := flt_len (R := Rd) (fun k h => h.1) h.part
    have hlb := flt_len (R := Rd) (fun k h => h.1) hb
    have hbd := a.bd hL hb
    have ih := ih hb
    have e : (stp (d + 1) done + (t * stp d b + s)).toNat = (flt (d + 1) done).length + (t.toNat * (flt d b).length + s.toNat) := by
      have h1 : ((t.toNat * (flt d b).length + s.toNat : Nat) : Int) = t * stp d b + s := by
        rw [Int.natCast_add, Int.natCast_mul, Int.toNat_of_nonneg ht, Int.toNat_of_nonneg hbd.1, hlb]
      omega
    have e2 : s.toNat < (flt d b).length := by omega
    have hlt : t.toNat * (flt d b).length + s.toNat < (List.replicate k.toNat (flt d b)).flatten.length := by
      rw [rep_len']
      have h1 : (t.toNat + 1) * (flt d b).length ≤ k.toNat * (flt d b).length := Nat.mul_le_mul_right _ (by omega)
      rw [Nat.succ_mul] at h1
      omega
    rw [e, flt_app, List.getElem?_append_right (by omega), Nat.add_sub_cancel_left, flt_cons, flt_lp, List.getElem?_append_left hlt, rep_get _ _ _ _ (by omega) e2]
    exact ih
section
variable {f : U → Bool}
theorem lastIx_at : ∀ {l : List U} {i : Nat}, lastIx f l = some i → ∃ x, l[i]? = some x ∧ f x = true
  | x :: l, i, h => by
    unfold lastIx at h
    split at h
    · rename_i j e
      cases h
      obtain ⟨y, h1, h2⟩ := lastIx_at e
      exact ⟨y, by simpa using h1, h2⟩
    · split at h
      · rename_i hx
        cases h
        exact ⟨x, rfl, hx⟩
      · cases h
theorem lastIx_len {l : List U} {i : Nat} (h : lastIx f l = some i) : i < l.length := by
  obtain ⟨x, h1, _⟩ := lastIx_at h
  exact (List.getElem?_eq_some_iff.mp h1).1
theorem lastIx_take {l : List U} {mo i : Nat} (h : lastIx f (l.take mo) = some i) : i < mo ∧ i < l.length ∧ lastIx f (l.take (i + 1)) = some i ∧ lastIx f (l.take i) ≠ some i := by
  obtain ⟨x, h1, h2⟩ := lastIx_at h
  have hl := (List.getElem?_eq_some_iff.mp h1).1
  rw [List.length_take] at hl
  rw [List.getElem?_take] at h1
  split at h1
  · have hi : i < l.length := by omega
    have ex : l[i] = x := by
      rw [List.getElem?_eq_getElem hi] at h1
      exact Option.some.inj h1
    refine ⟨by omega, hi, ?_, fun z => ?_⟩
    · rw [List.take_succ_eq_append_getElem hi, lastIx_app, lastIx_one, ex, if_pos h2, List.length_take, Nat.min_eq_left (by omega)]
      rfl
    · have := lastIx_len z
      rw [List.length_take] at this
      omega
  · cases h1
theorem isSome_app (a b : List U) : (lastIx f (a ++ b)).isSome = ((lastIx f a).isSome || (lastIx f b).isSome) := by
  rw [lastIx_app]
  cases lastIx f b with
  | none => simp [oAdd]
  | some i => simp [oAdd]
theorem none_app {a b : List U} (h : lastIx f (a ++ b) = none) : lastIx f a = none ∧ lastIx f b = none := by
  have := isSome_app (f := f) a b
  rw [h] at this
  cases h1 : lastIx f a <;> cases h2 : lastIx f b <;> simp [h1, h2] at this ⊢
theorem none_take {l : List U} (h : lastIx f l = none) (t : Nat) : lastIx f (l.take t) = none := by
  rw [← List.take_append_drop t l] at h
  exact (none_app h).1
end
section
variable {T : Sto} {Q : U → Sto → Prop}
theorem inV_ints (x : Int) : ∀ ns : List Int, inV (.int x) (ns.map V.int) = decide (x ∈ ns)
  | [] => rfl
  | n :: ns => by
    show (eqV (.int n) (.int x) || inV (.int x) (ns.map V.int)) = _
    rw [eqV_int, inV_ints x ns]
    by_cases h : n = x
    · subst h; simp
    · simp [h, Ne.symm h]
theorem fVs_ints : ∀ ns : List Int, fVs (ns.map .int) = some (ns.map V.int)
  | [] => rfl
  | n :: ns => by
    rw [List.map_cons]
    unfold fVs
    rw [fVs_ints ns]; rfl
theorem v_inIs {neg : Bool} {x : Int} {ns : List Int} (q : Q (.bl (if neg = true then !decide (x ∈ ns) else decide (x ∈ ns))) T) : Wp (gIn neg (.int x) (.tup (ns.map .int)) T) Q := by
  unfold gIn
  have e : (seqU T (.tup (ns.map U.int))).bind fVs = some (ns.map V.int) := by
    show fVs (ns.map .int) = _
    exact fVs_ints ns
  have e2 : fV (.int x) = some (.int x) := rfl
  simp only [e, e2, inV_ints]
  exact .ok q
theorem v_eqNI {i : Int} (q : Q (.bl false) T) : Wp (gEq false .non (.int i) T) Q := by
  have e : PyData.eqv .none (.int i) = false := by unfold PyData.eqv; rfl
  refine v_eqD (d := .none) (e := .int i) rfl rfl rfl rfl ?_
  rw [e]
  exact q
theorem dnU_cons (hi : Int) (n : Nat) : dnU hi (n + 1) = .int hi :: dnU (hi - 1) n := by
  unfold dnU
  rw [List.range_succ_eq_map, List.map_cons, List.map_map]
  congr 1
  · congr 1; omega
  · apply List.map_congr_left
    intro i _
    show U.int _ = U.int _
    congr 1
    omega
end
end Lf


set_option Elab.async false
set_option linter.all false
set_option maxRecDepth 100000
set_option maxHeartbeats 4000000
/-! ## text in text; what is executed before a moment -/
namespace Lf
open PySem PySem.Spec L2
def strIn (i j : Str) : Bool := !(Builtin.Str.occurrences j i 0 j.length 1).isEmpty
def gInS (neg : Bool) : U → U → M U := fun x y T => match x, y with
  | .str i, .str j => .ok (.bl (if neg then !strIn i j else strIn i j)) T
  | _, _ => .no
section
variable {X : Cx} {E : XK}
theorem fop_inS : FOp X E (compareOp .In) (gInS false) := by
  refine ⟨_, op_in_str, fun ρ H T u w x y Q s ru rw h => ?_⟩
  unfold gInS at h
  split at h
  · cases ru; cases rw; exact ⟨_, _, rfl, rfl, okV s h (.bl _)⟩
  · exact False.elim h
theorem fop_notInS : FOp X E (compareOp .NotIn) (gInS true) := by
  refine ⟨_, op_notIn_str, fun ρ H T u w x y Q s ru rw h => ?_⟩
  unfold gInS at h
  split at h
  · cases ru; cases rw; exact ⟨_, _, rfl, rfl, okV s h (.bl _)⟩
  · exact False.elim h
end
theorem v_inS {neg : Bool} {x y : Str} {T : Sto} {Q : U → Sto → Prop} (q : ∀ b, Q (.bl b) T) : Wp (gInS neg (.str x) (.str y) T) Q := .ok (q _)
/-- the weights of a list of steps -/
def cwt (ws : List Str) (l : List U) : Int := (l.map (wt ws)).sum
theorem cwt_app (ws : List Str) (a b : List U) : cwt ws (a ++ b) = cwt ws a + cwt ws b := by
  unfold cwt; rw [List.map_append, List.sum_append]
theorem cwt_nil (ws : List Str) : cwt ws [] = 0 := rfl
theorem cwt_rep (ws : List Str) (l : List U) : ∀ k : Nat, cwt ws (List.replicate k l).flatten = k * cwt ws l
  | 0 => by simp [cwt_nil]
  | k + 1 => by
    rw [List.replicate_succ, List.flatten_cons, cwt_app, cwt_rep ws l k]
    push_cast
    rw [Int.add_mul]; omega
theorem cwt_nn (ws : List Str) (l : List U) : 0 ≤ cwt ws l ∧ cwt ws l ≤ l.length := by
  have := sum_bd (f := wt ws) (M := 1) l fun x _ => wt_bd ws x
  unfold cwt
  omega
theorem cnt_flt {ws : List Str} {R : Int → Prop} (hR : ∀ k, R k → 0 ≤ k) {L : Nat} : ∀ {d : Nat} {xs : List U}, Pn Op R L d xs → cnt (wt ws) d xs = cwt ws (flt d xs) := by
  intro d
  induction d with
  | zero => intro xs h; rfl
  | succ d ih =>
    intro xs h
    have : ∀ xs : List U, (∀ x ∈ xs, Op x ∨ ∃ k b, x = lpU k b ∧ R k ∧ Pn Op R L d b) → cnt (wt ws) (d + 1) xs = cwt ws (flt (d + 1) xs) := by
      intro xs
      induction xs with
      | nil => intro _; rfl
      | cons x xs ihx =>
        intro h
        rw [flt_cons, cnt_cons, cwt_app, ihx fun y hy => h y (List.mem_cons_of_mem _ hy)]
        rcases h x (List.mem_cons_self ..) with ho | ⟨k, b, rfl, hk, hb⟩
        · rw [flt_op ho, cn1_op ho]; simp [cwt]
        · rw [flt_lp, cn1_lp, cwt_rep, ih hb, Int.toNat_of_nonneg (hR k hk)]
    exact this xs h.2
def tbA (sc tm self : List U → M U) : FxS :=
  fSeq (fPar2 3 4 (fCons (fC (.int 0)) (fCons (fVar 1) (fNil)))) (fSeq (fFor (fIter (fVar 0)) (gNm 5) (fSeq (fSet 6 (fCall (kdG .pur 1 sc) (fCons (fTup (fCons (fVar 5) (fNil))) (fNil)))) (fIf (fBl (fBin gGe (fVar 4) (fVar 6))) (fSeq (fAug 3 gIAdd (fCall (kdG .pur 2 tm) (fCons (fTup (fCons (fVar 5) (fNil))) (fCons (fVar 2) (fNil))))) (fAug 4 gSub (fVar 6))) (fIf (fBl (fBin (gEq false) (fVar 4) (fC (.int 0)))) (fRet (fVar 3)) (fSeq (fAsg (fCall gDivmod (fCons (fVar 4) (fCons (fCall (kdG .pur 1 sc) (fCons (fBin gIx (fVar 5) (fC (.int 2))) (fNil))) (fNil)))) (gUnp 2 (gCons (gNm 7) (gCons (gNm 8) (gNil))))) (fRet (fBin gAdd (fBin gAdd (fVar 3) (fBin gMul (fVar 7) (fCall (kdG .pur 2 tm) (fCons (fBin gIx (fVar 5) (fC (.int 2))) (fCons (fVar 2) (fNil)))))) (fCall (kdG .pur 3 self) (fCons (fBin gIx (fVar 5) (fC (.int 2))) (fCons (fVar 8) (fCons (fVar 2) (fNil)))))))))))) (fRet (fVar 3)))
def rbA (tb : List U → M U) : FxS := fRet (fCall (kdG .pur 3 tb) (fCons (fVar 0) (fCons (fVar 1) (fCons (fTup (fCons (fC (.str "read")) (fNil))) (fNil)))))
def rcA (tm : List U → M U) : FxS := fRet (fCall (kdG .pur 2 tm) (fCons (fVar 0) (fCons (fTup (fCons (fC (.str "read")) (fNil))) (fNil))))
section
variable {sc : List U → M U} {gt g : Nat → List U → M U} {mt : Nat} (hs : sc = gDef 1 (scA (gt mt))) (ht : ∀ m, gt (m + 1) = gDef 4 (tmA (gt m))) (hg : ∀ m, g (m + 1) = gDef 9 (tbA sc (gt mt) (g m))) {ws : List Str} (hw1 : ws = [] ∨ ∃ w ∈ words7, ws = [w]) {L : Nat} (hL : L ≤ 1000) (hL1 : 1 ≤ L)
include hs ht hg hw1 hL hL1
local macro_rules | `(tactic| bv_omega) => `(tactic| repeat (first | with_reducible refine Lf.kS_nx ?_ | with_reducible refine Lf.kS_rt ?_ | with_reducible refine Lf.kS_bk ?_ | with_reducible refine Lf.kS_ct ?_ | with_reducible refine Lf.kD_rt ?_ | with_reducible refine Lf.kD_nx ?_ | with_reducible refine Lf.kF_nx ?_ | with_reducible refine Lf.kF_ct ?_ | with_reducible refine Lf.kF_bk ?_ | with_reducible refine Lf.kF_rt ?_ | with_reducible refine Lf.v_ifT ?_ | with_reducible refine Lf.v_ifF ?_ | with_reducible refine Lf.v_ifNT ?_ | with_reducible refine Lf.v_ifNF ?_ | with_reducible refine Lf.kP_int ?_ | with_reducible refine Lf.kP_bl ?_ | with_reducible refine Lf.kP_str ?_ | with_reducible refine Lf.kP_non ?_ | with_reducible refine Lf.v_iadd ?_ | with_reducible refine Lf.Wp.ok ?_ | with_reducible refine Lf.seq_wp ?_ | with_reducible refine Lf.v_bin ?_ | with_reducible refine Lf.v_cons ?_ | with_reducible refine Lf.v_call ?_ | with_reducible refine Lf.v_ret ?_ | with_reducible refine Lf.v_set ?_ | with_reducible refine Lf.v_asg ?_ | with_reducible refine Lf.v_if ?_ | with_reducible refine Lf.v_ifE ?_ | with_reducible refine Lf.v_bl ?_ | with_reducible refine Lf.v_tru ?_ | with_reducible refine Lf.v_and ?_ | with_reducible refine Lf.v_or ?_ | with_reducible refine Lf.v_not ?_ | with_reducible refine Lf.v_andV ?_ | with_reducible refine Lf.v_orV ?_ | with_reducible refine Lf.v_notV ?_ | with_reducible refine Lf.v_c ?_ | with_reducible refine Lf.v_nil ?_ | with_reducible refine Lf.v_skip ?_ | with_reducible refine Lf.v_drop ?_ | with_reducible refine Lf.v_retN ?_ | with_reducible refine Lf.v_brk ?_ | with_reducible refine Lf.v_cnt ?_ | with_reducible refine Lf.v_nm ?_ | with_reducible refine Lf.v_gnil ?_ | with_reducible refine Lf.v_gcons ?_ | with_reducible refine Lf.v_yes ?_ | with_reducible refine Lf.v_for ?_ | with_reducible refine Lf.v_lc ?_ | with_reducible refine Lf.v_rg ?_ | with_reducible refine Lf.v_iter ?_ | with_reducible refine Lf.v_iterT ?_ | with_reducible refine Lf.v_add ?_ | with_reducible refine Lf.v_sub ?_ | with_reducible refine Lf.v_neg ?_ | with_reducible refine Lf.v_lt ?_ | with_reducible refine Lf.v_le ?_ | with_reducible refine Lf.v_gt ?_ | with_reducible refine Lf.v_ge ?_ | with_reducible refine Lf.v_eqI ?_ | with_reducible refine Lf.v_neI ?_ | with_reducible refine Lf.v_abs ?_ | with_reducible refine Lf.v_intI ?_ | with_reducible refine Lf.v_intB ?_ | with_reducible refine Lf.v_max2 ?_ | with_reducible refine Lf.v_min2 ?_ | with_reducible refine Lf.v_lenT ?_ | with_reducible refine Lf.v_lenN ?_ | with_reducible refine Lf.v_nw ?_ | with_reducible refine Lf.v_un ?_ | with_reducible refine Lf.v_tup ?_ | with_reducible refine Lf.v_lst ?_ | with_reducible refine Lf.v_par2 ?_ | with_reducible refine Lf.v_par3 ?_ | with_reducible refine Lf.v_chain ?_ | with_reducible refine Lf.v_meth ?_ | with_reducible refine Lf.v_subT ?_ | with_reducible refine Lf.v_isiIB ?_ | with_reducible refine Lf.v_isiII ?_ | with_reducible refine Lf.v_sl ?_ | with_reducible refine Lf.v_noP ?_ | with_reducible refine Lf.v_pt ?_ | with_reducible refine Lf.v_cutT ?_ | ((with_reducible apply Lf.v_var); exact rfl) | ((with_reducible refine Lf.v_kw ?_ ?_); exact rfl) | ((with_reducible apply Lf.v_iterO); first | exact rfl | assumption) | ((with_reducible apply Lf.v_lenL); first | exact rfl | assumption) | ((with_reducible refine Lf.v_unp ?_ ?_); exact rfl) | ((with_reducible apply Lf.v_aug); exact rfl) | ((with_reducible refine Lf.v_mod ?_ ?_); first | decide | omega | assumption | fail) | ((with_reducible refine Lf.v_div ?_ ?_); first | exact ⟨by decide, by decide +kernel⟩ | assumption | exact Lf.log2d (by omega) ⟨by omega, by omega⟩ | fail) | ((with_reducible refine Lf.v_mul ?_ ?_); first | exact Lf.log2m ⟨by omega, by omega⟩ ⟨by omega, by omega⟩ | exact Lf.log2m (by assumption) ⟨by omega, by omega⟩ | exact Lf.log2m ⟨by omega, by omega⟩ (by assumption) | fail) | ((with_reducible refine Lf.v_pow ?_ ?_); exact ⟨by decide, by decide, by decide⟩) | ((with_reducible refine Lf.v_rg1 ?_ ?_); first | decide | fail) | ((with_reducible apply Lf.v_ixL); (first | exact rfl | assumption | fail); (first | exact rfl | assumption | fail)) | ((with_reducible apply Lf.v_ixT); (first | exact rfl | assumption | fail)) | ((with_reducible apply Lf.v_ixN); (first | exact rfl | assumption | fail)) | with_reducible refine ⟨_, rfl, ?_⟩ | (refine ⟨_, (rfl : Lf.tru _ (Lf.U.bl _) = some _), ?_⟩) | with_reducible refine ⟨_, _, rfl, ?_⟩ | with_reducible refine ⟨_, _, _, rfl, ?_⟩ | (refine ⟨(Nat.le_of_ble_eq_true rfl : List.length _ ≤ 16777216), ?_⟩) | with_reducible refine Lf.v_enum ?_ | with_reducible refine Lf.v_eqS0 ?_ | with_reducible refine Lf.v_neT ?_ | with_reducible refine Lf.v_ix0 ?_ | with_reducible refine Lf.v_tupleT ?_ | with_reducible refine Lf.v_listT ?_ | with_reducible refine Lf.v_revT ?_ | with_reducible refine Lf.v_dic0 ?_ | with_reducible refine Lf.v_dic1 ?_ | ((with_reducible apply Lf.isl_and); (first | exact rfl | assumption | fail)) | ((with_reducible apply Lf.v_appZ); (first | exact rfl | assumption | fail); (first | omega | (simp only [List.length_append, List.length_map, List.length_cons, List.length_nil]; omega) | (simp; omega) | fail)) | ((with_reducible apply Lf.v_tupleL); (first | exact rfl | assumption | fail)) | ((with_reducible apply Lf.v_listL); (first | exact rfl | assumption | fail)) | ((with_reducible refine Lf.v_yesd ?_ ?_); (first | (with_reducible rfl) | assumption | (exact fun z => z rfl) | decide +kernel | omega | fail)) | ((with_reducible refine Lf.v_nod ?_ ?_); (first | (with_reducible rfl) | assumption | (exact fun z => z rfl) | decide +kernel | omega | fail)) | ((with_reducible refine Lf.v_yesn ?_ ?_); (first | (with_reducible rfl) | assumption | (exact fun z => z rfl) | decide +kernel | omega | fail)) | ((with_reducible refine Lf.v_non ?_ ?_); (first | (with_reducible rfl) | assumption | (exact fun z => z rfl) | decide +kernel | omega | fail)) | ((with_reducible refine Lf.kP_tup ?_ ?_); first | exact rfl | exact Lf.nrs_ints _ | assumption | fail) | ((with_reducible refine Lf.v_rg1 ?_ ?_); exact Lf.small62_of (by omega) (by omega)) | fail))
theorem tb_ok : ∀ (d m : Nat) (xs : List U), d < m → d < mt → d ≤ 6 → Pn Op Rd L d xs → ∀ (mo : Nat), mo ≤ (flt d xs).length → ∀ (T : Sto) (Q : U → Sto → Prop), Q (.int (cwt ws ((flt d xs).take mo))) T → Wp (kdG .pur 3 (g m) [.tup xs, .int (mo : Nat), .tup (ws.map .str)] T) Q := by
  intro d
  induction d using Nat.strongRecOn with
  | ind d ih =>
    intro m xs hm hmt hd h mo hmo T Q q
    obtain ⟨m, rfl⟩ : ∃ m', m = m' + 1 := ⟨m - 1, by omega⟩
    have hnw := nrs_strs ws
    have tms : ∀ {d : Nat} {ys : List U}, d < mt → d ≤ 6 → Pn Op Rd L d ys → ∀ {T : Sto} {Q : U → Sto → Prop}, Q (.int (cwt ws (flt d ys))) T → Wp (kdG .pur 2 (gt mt) [.tup ys, .tup (ws.map .str)] T) Q := fun h1 h2 h3 T Q q => by
      refine tm_ok ht hw1 hL _ mt _ h1 h2 h3 T Q ?_
      rw [cnt_flt (R := Rd) (fun k h => h.1) h3]
      exact q
    rw [hg]
    refine purK rfl ?_ (gDef_wp ?_)
    · show (nrs xs && (true && (nrs (ws.map .str) && true))) = true
      rw [h.nrs, hnw]; rfl
    unfold tbA
    bv_omega
    refine wp_forC (fun r η T => T = [] ∧ ∃ (done : List U) (left : Nat) (o5 o6 o7 o8 : Option U), xs = done ++ r ∧ (flt d done).length + left = mo ∧ η = [some (.tup xs), some (.int (mo : Nat)), some (.tup (ws.map .str)), some (.int (cwt ws (flt d done))), some (.int (left : Nat)), o5, o6, o7, o8]) ⟨rfl, [], mo, _, _, _, _, rfl, by rw [flt_nil]; simp, by rw [flt_nil]; rfl⟩ (fun y r η T ⟨eT, done, left, o5, o6, o7, o8, ex, hl, e⟩ => ?_) (fun η T ⟨eT, done, left, o5, o6, o7, o8, ex, hl, e⟩ => ?_)
    · subst eT e
      have hy : y ∈ xs := by rw [ex]; exact List.mem_append_right _ (List.mem_cons_self ..)
      have enx : xs = (done ++ [y]) ++ r := by rw [ex]; simp
      have h1 : Pn Op Rd L d [y] := h.sub (fun z hz => by rw [List.mem_singleton.mp hz]; exact hy) (by simp; omega)
      have l1 := flt_len (R := Rd) (fun k h => h.1) h1
      have etake : (flt d xs).take mo = flt d done ++ (flt d (y :: r)).take left := by
        rw [ex, flt_app, List.take_append, List.take_of_length_le (by omega), show mo - (flt d done).length = left by omega]
      bv_omega
      refine scA_ok hs ht hL hmt hd h1 ?_
      rw [← l1]
      bv_omega
      by_cases hge : (flt d [y]).length ≤ left
      · refine v_yesd (by omega) ?_
        bv_omega
        refine tms hmt hd h1 ?_
        bv_omega
        exact ⟨rfl, done ++ [y], left - (flt d [y]).length, _, _, _, _, enx, by rw [flt_app, List.length_append]; omega, by rw [flt_app, cwt_app, Int.natCast_sub hge]; rfl⟩
      · refine v_nod (by omega) ?_
        bv_omega
        refine v_ifd (fun h0 => ?_) (fun h0 => ?_)
        · have : left = 0 := by omega
          subst this
          rw [etake, List.take_zero, List.append_nil] at q
          bv_omega
          exact q
        · rcases h.item hy with ho | ⟨d', k, b, rfl, rfl, hk, hb⟩
          · rw [flt_op ho] at hge
            simp at hge
            omega
          · have blen := flt_len (R := Rd) (fun k h => h.1) hb
            have e1 : flt (d' + 1) [lpU k b] = (List.replicate k.toNat (flt d' b)).flatten := flt_lp
            have hk2 := hk.2
            have hle : left ≤ k.toNat * (flt d' b).length := by rw [← rep_len', ← e1]; omega
            have hS : 0 < (flt d' b).length := by
              cases hz : (flt d' b).length with
              | zero => rw [hz, Nat.mul_zero] at hle; omega
              | succ z => omega
            have ef : (flt (d' + 1) (lpU k b :: r)).take left = (List.replicate (left / (flt d' b).length) (flt d' b)).flatten ++ (flt d' b).take (left % (flt d' b).length) := by
              rw [flt_cons, List.take_append_of_le_length (by omega), e1, rep_take _ hS _ _ hle]
            have hbd := (cnt_bd hL (wt_bd []) hb).2
            have hBp := Bd_pos d'
            have hSs : Sm ((flt d' b).length : Nat) := sm_of (d := d') (by omega) ⟨by omega, by unfold stp at blen; omega⟩
            have hcs : Sm (cwt ws (flt d' b)) := by
              have := cwt_nn ws (flt d' b)
              exact sm_of (d := d') (by omega) ⟨by omega, by unfold stp at blen; omega⟩
            have hrs : Sm ((left / (flt d' b).length : Nat) : Int) := by
              have h1 : left / (flt d' b).length ≤ k.toNat := Nat.div_le_of_le_mul (by rw [Nat.mul_comm]; exact hle)
              generalize left / (flt d' b).length = rr at h1 ⊢
              exact sm_of (d := 0) (by decide) ⟨by have := Bd_pos 0; omega, by have := Bd_pos 0; omega⟩
            unfold lpU
            bv_omega
            refine scA_ok hs ht hL (by omega) (by omega) hb ?_
            rw [← blen]
            bv_omega
            refine v_divmod (log2d (by omega) hSs) ?_
            rw [← Int.natCast_emod, ← Int.natCast_ediv]
            bv_omega
            refine tms (by omega) (by omega) hb ?_
            refine v_mul (log2m hrs hcs) ?_
            bv_omega
            refine ih d' (Nat.lt_succ_self _) m b (by omega) (by omega) (by omega) hb _ (by have := Nat.mod_lt left hS; omega) _ _ ?_
            bv_omega
            rw [etake, ef, cwt_app, cwt_app, cwt_rep, ← Int.add_assoc] at q
            exact q
    · subst eT e
      rw [List.append_nil] at ex
      subst ex
      have : left = 0 := by omega
      subst this
      rw [List.take_of_length_le (by omega)] at q
      bv_omega
      exact q
end
local macro_rules | `(tactic| bv_omega) => `(tactic| repeat (first | with_reducible refine Lf.kS_nx ?_ | with_reducible refine Lf.kS_rt ?_ | with_reducible refine Lf.kS_bk ?_ | with_reducible refine Lf.kS_ct ?_ | with_reducible refine Lf.kD_rt ?_ | with_reducible refine Lf.kD_nx ?_ | with_reducible refine Lf.kF_nx ?_ | with_reducible refine Lf.kF_ct ?_ | with_reducible refine Lf.kF_bk ?_ | with_reducible refine Lf.kF_rt ?_ | with_reducible refine Lf.v_ifT ?_ | with_reducible refine Lf.v_ifF ?_ | with_reducible refine Lf.v_ifNT ?_ | with_reducible refine Lf.v_ifNF ?_ | with_reducible refine Lf.kP_int ?_ | with_reducible refine Lf.kP_bl ?_ | with_reducible refine Lf.kP_str ?_ | with_reducible refine Lf.kP_non ?_ | with_reducible refine Lf.v_iadd ?_ | with_reducible refine Lf.Wp.ok ?_ | with_reducible refine Lf.seq_wp ?_ | with_reducible refine Lf.v_bin ?_ | with_reducible refine Lf.v_cons ?_ | with_reducible refine Lf.v_call ?_ | with_reducible refine Lf.v_ret ?_ | with_reducible refine Lf.v_set ?_ | with_reducible refine Lf.v_asg ?_ | with_reducible refine Lf.v_if ?_ | with_reducible refine Lf.v_ifE ?_ | with_reducible refine Lf.v_bl ?_ | with_reducible refine Lf.v_tru ?_ | with_reducible refine Lf.v_and ?_ | with_reducible refine Lf.v_or ?_ | with_reducible refine Lf.v_not ?_ | with_reducible refine Lf.v_andV ?_ | with_reducible refine Lf.v_orV ?_ | with_reducible refine Lf.v_notV ?_ | with_reducible refine Lf.v_c ?_ | with_reducible refine Lf.v_nil ?_ | with_reducible refine Lf.v_skip ?_ | with_reducible refine Lf.v_drop ?_ | with_reducible refine Lf.v_retN ?_ | with_reducible refine Lf.v_brk ?_ | with_reducible refine Lf.v_cnt ?_ | with_reducible refine Lf.v_nm ?_ | with_reducible refine Lf.v_gnil ?_ | with_reducible refine Lf.v_gcons ?_ | with_reducible refine Lf.v_yes ?_ | with_reducible refine Lf.v_for ?_ | with_reducible refine Lf.v_lc ?_ | with_reducible refine Lf.v_rg ?_ | with_reducible refine Lf.v_iter ?_ | with_reducible refine Lf.v_iterT ?_ | with_reducible refine Lf.v_add ?_ | with_reducible refine Lf.v_sub ?_ | with_reducible refine Lf.v_neg ?_ | with_reducible refine Lf.v_lt ?_ | with_reducible refine Lf.v_le ?_ | with_reducible refine Lf.v_gt ?_ | with_reducible refine Lf.v_ge ?_ | with_reducible refine Lf.v_eqI ?_ | with_reducible refine Lf.v_neI ?_ | with_reducible refine Lf.v_abs ?_ | with_reducible refine Lf.v_intI ?_ | with_reducible refine Lf.v_intB ?_ | with_reducible refine Lf.v_max2 ?_ | with_reducible refine Lf.v_min2 ?_ | with_reducible refine Lf.v_lenT ?_ | with_reducible refine Lf.v_lenN ?_ | with_reducible refine Lf.v_nw ?_ | with_reducible refine Lf.v_un ?_ | with_reducible refine Lf.v_tup ?_ | with_reducible refine Lf.v_lst ?_ | with_reducible refine Lf.v_par2 ?_ | with_reducible refine Lf.v_par3 ?_ | with_reducible refine Lf.v_chain ?_ | with_reducible refine Lf.v_meth ?_ | with_reducible refine Lf.v_subT ?_ | with_reducible refine Lf.v_isiIB ?_ | with_reducible refine Lf.v_isiII ?_ | with_reducible refine Lf.v_sl ?_ | with_reducible refine Lf.v_noP ?_ | with_reducible refine Lf.v_pt ?_ | with_reducible refine Lf.v_cutT ?_ | ((with_reducible apply Lf.v_var); exact rfl) | ((with_reducible refine Lf.v_kw ?_ ?_); exact rfl) | ((with_reducible apply Lf.v_iterO); first | exact rfl | assumption) | ((with_reducible apply Lf.v_lenL); first | exact rfl | assumption) | ((with_reducible refine Lf.v_unp ?_ ?_); exact rfl) | ((with_reducible apply Lf.v_aug); exact rfl) | ((with_reducible refine Lf.v_mod ?_ ?_); first | decide | omega | assumption | fail) | ((with_reducible refine Lf.v_div ?_ ?_); first | exact ⟨by decide, by decide +kernel⟩ | assumption | exact Lf.log2d (by omega) ⟨by omega, by omega⟩ | fail) | ((with_reducible refine Lf.v_mul ?_ ?_); first | exact Lf.log2m ⟨by omega, by omega⟩ ⟨by omega, by omega⟩ | exact Lf.log2m (by assumption) ⟨by omega, by omega⟩ | exact Lf.log2m ⟨by omega, by omega⟩ (by assumption) | fail) | ((with_reducible refine Lf.v_pow ?_ ?_); exact ⟨by decide, by decide, by decide⟩) | ((with_reducible refine Lf.v_rg1 ?_ ?_); first | decide | fail) | ((with_reducible apply Lf.v_ixL); (first | exact rfl | assumption | fail); (first | exact rfl | assumption | fail)) | ((with_reducible apply Lf.v_ixT); (first | exact rfl | assumption | fail)) | ((with_reducible apply Lf.v_ixN); (first | exact rfl | assumption | fail)) | with_reducible refine ⟨_, rfl, ?_⟩ | (refine ⟨_, (rfl : Lf.tru _ (Lf.U.bl _) = some _), ?_⟩) | with_reducible refine ⟨_, _, rfl, ?_⟩ | with_reducible refine ⟨_, _, _, rfl, ?_⟩ | (refine ⟨(Nat.le_of_ble_eq_true rfl : List.length _ ≤ 16777216), ?_⟩) | with_reducible refine Lf.v_enum ?_ | with_reducible refine Lf.v_eqS0 ?_ | with_reducible refine Lf.v_neT ?_ | with_reducible refine Lf.v_ix0 ?_ | with_reducible refine Lf.v_tupleT ?_ | with_reducible refine Lf.v_listT ?_ | with_reducible refine Lf.v_revT ?_ | with_reducible refine Lf.v_dic0 ?_ | with_reducible refine Lf.v_dic1 ?_ | ((with_reducible apply Lf.isl_and); (first | exact rfl | assumption | fail)) | ((with_reducible apply Lf.v_appZ); (first | exact rfl | assumption | fail); (first | omega | (simp only [List.length_append, List.length_map, List.length_cons, List.length_nil]; omega) | (simp; omega) | fail)) | ((with_reducible apply Lf.v_tupleL); (first | exact rfl | assumption | fail)) | ((with_reducible apply Lf.v_listL); (first | exact rfl | assumption | fail)) | ((with_reducible refine Lf.v_yesd ?_ ?_); (first | (with_reducible rfl) | assumption | (exact fun z => z rfl) | decide +kernel | omega | fail)) | ((with_reducible refine Lf.v_nod ?_ ?_); (first | (with_reducible rfl) | assumption | (exact fun z => z rfl) | decide +kernel | omega | fail)) | ((with_reducible refine Lf.v_yesn ?_ ?_); (first | (with_reducible rfl) | assumption | (exact fun z => z rfl) | decide +kernel | omega | fail)) | ((with_reducible refine Lf.v_non ?_ ?_); (first | (with_reducible rfl) | assumption | (exact fun z => z rfl) | decide +kernel | omega | fail)) | ((with_reducible refine Lf.kP_tup ?_ ?_); first | exact rfl | exact Lf.nrs_ints _ | assumption | fail) | ((with_reducible refine Lf.v_rg1 ?_ ?_); exact Lf.small62_of (by omega) (by omega)) | fail))
theorem rbA_ok {sc g : List U → M U} {gt gb : Nat → List U → M U} {mt m : Nat} (hg : g = gDef 2 (rbA (gb m))) (hs : sc = gDef 1 (scA (gt mt))) (ht : ∀ m, gt (m + 1) = gDef 4 (tmA (gt m))) (hb : ∀ m, gb (m + 1) = gDef 9 (tbA sc (gt mt) (gb m))) {L : Nat} (hL : L ≤ 1000) (hL1 : 1 ≤ L) {d : Nat} {xs : List U} (hm : d < m) (hmt : d < mt) (hd : d ≤ 6) (h : Pn Op Rd L d xs)
    (mo : Nat) (hmo : mo ≤ (flt d xs).length) {T : Sto} {Q : U → Sto → Prop} (q : Q (.int (cwt ["read"] ((flt d xs).take mo))) T) : Wp (kdG .pur 2 g [.tup xs, .int (mo : Nat)] T) Q := by
  subst hg
  refine purK rfl ?_ (gDef_wp ?_)
  · show (nrs xs && (true && true)) = true
    rw [h.nrs]; rfl
  unfold rbA
  bv_omega
  refine tb_ok hs ht hb (ws := ["read"]) (.inr ⟨"read", by decide +kernel, rfl⟩) hL hL1 d m xs hm hmt hd h mo hmo _ _ ?_
  bv_omega
  exact q
theorem rcA_ok {g : List U → M U} {gt : Nat → List U → M U} {m : Nat} (hg : g = gDef 1 (rcA (gt m))) (ht : ∀ m, gt (m + 1) = gDef 4 (tmA (gt m))) {L : Nat} (hL : L ≤ 1000) {d : Nat} {xs : List U} (hd : d < m) (hd2 : d ≤ 6) (h : Pn Op Rd L d xs) {T : Sto} {Q : U → Sto → Prop} (q : Q (.int (cwt ["read"] (flt d xs))) T) : Wp (kdG .pur 1 g [.tup xs] T) Q := by
  subst hg
  refine purK rfl ?_ (gDef_wp ?_)
  · show (nrs xs && true) = true
    rw [h.nrs]; rfl
  unfold rcA
  bv_omega
  refine tm_ok ht (ws := ["read"]) (.inr ⟨"read", by decide +kernel, rfl⟩) hL d m xs hd hd2 h _ _ ?_
  rw [cnt_flt (R := Rd) (fun k h => h.1) h]
  bv_omega
  exact q
end Lf


set_option Elab.async false
set_option linter.all false
set_option maxRecDepth 100000
set_option maxHeartbeats 4000000
/-! ## list.extend by a tuple -/
namespace PySem
theorem extTup_meets (l b : Addr) (xs ys : Array Value) (n k : Nat) (dct : Option Addr) (sl : Array (Option Value)) (h1 : ¬(!xs.isEmpty && Builtin.List.listTooLong (xs.size + ys.size)) = true) (h2 : xs.size ≤ sizeLine)
    (h3 : xs.size + ys.size ≤ sizeLine + 1) : Meets (Builtin.«list.extend» ⟨[.ref l, .ref b], []⟩) (fun _ R s =>
      s.heap.get? l = some { cls := .type "list", dict := none, data := .seq xs n, slots := #[] } ∧
      s.heap.get? b = some { cls := .type "tuple", dict := dct, data := .seq ys k, slots := sl } ∧
      R (.ok (.ret Value.none)) { s with heap := s.heap.update l (Obj.mapSeq fun x => x ++ ys), toks := s.toks }) :=
  .of_wp fun prog w A R s hyp => by
    obtain ⟨hp, g, d, tk, os⟩ := s
    obtain ⟨hl, hb, hyp⟩ := hyp
    have q1 := AutoSeq1.idx_int
    have q2 := AutoSeq1.sub_tuple_tuple
    have q3 := AutoSeq1.sub_list_list
    have q4 := AutoSeq1.sub_tuple_list
    have q5 := AutoSeq1.sub_list_tuple
    have hz : (xs ++ ys).size ≤ sizeLine + 1 := by
      rw [Array.size_append]
      exact h3
    wp_walk using
      (wpAny_updateSeq hl rfl (hz := h2) (_hz' := hz)),
      PySem.wpAny_loadPart' hl,
      PySem.wpAny_loadPart' hb
    exact ⟨_, rfl, hyp⟩
end PySem
namespace Lf
open PySem PySem.Spec L2
def rExtT (K : PySem.W.Frag) : V → List V → Hp → VK → Prop := fun x vs H Q =>
  ∃ l b xs zs, x = .ref l ∧ vs = [.ref b] ∧ H l = some (.lst xs) ∧ SqT K H b zs ∧ xs.length + zs.length ≤ sizeLine ∧ Q .non (upd H l (.lst (xs ++ zs)))
section
variable {X : Cx} {E : XK}
open PyProof.Rows in
theorem mt_extT : MtR X "list.extend" (rExtT X.K) := by
  intro pins s σ H x vs v us Q I rx rv h
  obtain ⟨l, b, xs, zs, rfl, rfl, hH, hB, hz, q⟩ := h
  cases rx
  obtain ⟨u, rfl, ru⟩ := rv.one
  cases ru
  obtain ⟨z, its, n, r, hl, e⟩ := I.lstM hH
  obtain ⟨its2, r2, ⟨ob, e2, hc2, n2, hd2⟩, _⟩ := I.tuple hB
  have hl2 := r2.length
  have hb : s.heap.get? b = some { cls := .type "tuple", dict := ob.dict, data := .seq its2.toArray n2, slots := ob.slots } := by
    rw [e2]
    cases ob
    simp only at hc2 hd2
    rw [hc2, hd2]
  have sz : its.toArray.size + its2.toArray.size ≤ sizeLine := by
    simp only [List.size_toArray]
    omega
  have short : ¬ (!its.toArray.isEmpty && Builtin.List.listTooLong (its.toArray.size + its2.toArray.size)) = true := by
    rw [notLongL sz]
    simp
  refine call_meets F.slot_list_extend ⟨_, e, rfl⟩ F.entry_list_extend (F.args_list_extend_2 _ _) (extTup_meets l b its.toArray its2.toArray n n2 ob.dict ob.slots short (by simp only [List.size_toArray]; omega) (by omega)) ⟨e, hb, ?_⟩
  have I2 := I.lset (t' := s.toks) (ys := xs ++ zs) (its' := its ++ its2) (f := fun x => x ++ its2.toArray) hH e (by simp) (r.append r2) (by simp only [List.length_append]; omega)
  exact ⟨.non, _, I2, rfl, q⟩
def gExtendT : U → List U → M U := fun o us T => match o, us with
  | .ob k, [.tup ys] => match T[k]? with
    | some (.lst xs) => if xs.length + ys.length ≤ 16777216 then .ok .non (T.set k (.lst (xs ++ ys))) else .no
    | _ => .no
  | _, _ => .no
theorem fmt_extendT : FMt X E "list.extend" gExtendT := by
  refine ⟨_, mt_extT, fun ρ H T o us x xs Q s ro r h => ?_⟩
  unfold gExtendT at h
  split at h
  · rename_i k ys
    split at h
    · rename_i zs ez
      split at h
      · rename_i hl
        match ro, r with
        | .ob (a := a) ea, .cons (.tup (a := b) (vs := ws) sq rs2) .nil =>
          obtain ⟨a', p, vs, f1, rs⟩ := s.get ez
          rw [ea] at p
          cases p
          have l1 := rs.length
          have l2 := rs2.length
          exact ⟨a, b, vs, ws, rfl, rfl, f1, sq, by rw [sz16]; omega, okPut s ea h (rs.append rs2) .non⟩
      · exact False.elim h
    · exact False.elim h
  · exact False.elim h
end
theorem v_extT {k : Nat} {xs ys : List U} {T : Sto} {Q : U → Sto → Prop} (e : T[k]? = some (.lst xs)) (h : xs.length + ys.length ≤ 16777216) (q : Q .non (T.set k (.lst (xs ++ ys)))) : Wp (gExtendT (.ob k) [.tup ys] T) Q := by
  unfold gExtendT; simp only [e, h, if_true]; exact .ok q
end Lf


set_option Elab.async false
set_option linter.all false
set_option maxRecDepth 100000
set_option maxHeartbeats 4000000
/-! ## run, with reads and writes -/
namespace Lf
open PySem PySem.Spec L2
/-- registers, outputs, inputs left -/
abbrev Rs := List Int × List Int × List Int
def stepS (p : Int) (s : Rs) : U → Rs
  | .tup [.str w, .int a] => if w = "read" then (s.1.set a.toNat (s.2.2.headD 0), s.2.1, s.2.2.tail) else if w = "write" then (s.1, s.2.1 ++ [s.1.getD a.toNat 0], s.2.2) else s
  | x => (aft p x s.1 0, s.2.1, s.2.2)
def stF (p : Int) (l : List U) (s : Rs) : Rs := l.foldl (stepS p) s
theorem stF_app (p : Int) (a b : List U) (s : Rs) : stF p (a ++ b) s = stF p b (stF p a s) := List.foldl_append
structure GoodS (p n : Int) (s : Rs) : Prop where
  r : InP p s.1
  l : (s.1.length : Int) = n
  o : InP p s.2.1
  i : InP p s.2.2
theorem InP.hd {p : Int} {ins : List Int} (hp : 2 ≤ p) (h : InP p ins) : 0 ≤ ins.headD 0 ∧ ins.headD 0 < p := by
  cases ins with
  | nil => exact ⟨by decide, by show (0 : Int) < p; omega⟩
  | cons i ins => exact h i (List.mem_cons_self ..)
theorem step_rd {p : Int} {a : Int} {s : Rs} : stepS p s (.tup [.str "read", .int a]) = (s.1.set a.toNat (s.2.2.headD 0), s.2.1, s.2.2.tail) := by
  show (if Str.ofString "read" = Str.ofString "read" then (s.1.set a.toNat (s.2.2.headD 0), s.2.1, s.2.2.tail) else if Str.ofString "read" = Str.ofString "write" then (s.1, s.2.1 ++ [s.1.getD a.toNat 0], s.2.2) else s) = _
  rw [if_pos rfl]
theorem step_wr {p : Int} {a : Int} {s : Rs} : stepS p s (.tup [.str "write", .int a]) = (s.1, s.2.1 ++ [s.1.getD a.toNat 0], s.2.2) := by
  show (if Str.ofString "write" = Str.ofString "read" then (s.1.set a.toNat (s.2.2.headD 0), s.2.1, s.2.2.tail) else if Str.ofString "write" = Str.ofString "write" then (s.1, s.2.1 ++ [s.1.getD a.toNat 0], s.2.2) else s) = _
  rw [if_neg (by decide +kernel), if_pos rfl]
/-- neither read nor write: a word and its numbers -/
def Calm (x : U) : Prop := (∃ w a c, x = .tup [.str w, .int a, .int c] ∧ w ≠ "read" ∧ w ≠ "write") ∨ ∃ w a b c, x = .tup [.str w, .int a, .int b, .int c] ∧ w ≠ "read" ∧ w ≠ "write"
theorem step_cm {p : Int} {s : Rs} {x : U} (h : Calm x) : stepS p s x = (aft p x s.1 0, s.2.1, s.2.2) := by
  rcases h with ⟨w, a, c, rfl, _⟩ | ⟨w, a, b, c, rfl, _⟩ <;> rfl
theorem OpOk.cases {p n : Int} {ws : List Str} {x : U} (h : OpOk p n ws x) : (∃ a, x = .tup [.str "read", .int a] ∧ 0 ≤ a ∧ a < n) ∨ (∃ a, x = .tup [.str "write", .int a] ∧ 0 ≤ a ∧ a < n) ∨ Calm x := by
  rcases h with ⟨w, a, c, rfl, hw, _⟩ | ⟨w, a, rfl, hw, a0, a1, _⟩ | ⟨a, b, c, rfl, _⟩ | ⟨w, a, b, rfl, hw, _⟩
  · exact .inr (.inr (.inl ⟨w, a, c, rfl, by rcases hw with rfl | rfl <;> decide +kernel, by rcases hw with rfl | rfl <;> decide +kernel⟩))
  · rcases hw with rfl | rfl
    · exact .inl ⟨a, rfl, a0, a1⟩
    · exact .inr (.inl ⟨a, rfl, a0, a1⟩)
  · exact .inr (.inr (.inr ⟨_, a, b, c, rfl, by decide +kernel, by decide +kernel⟩))
  · exact .inr (.inr (.inl ⟨w, a, b, rfl, by rcases hw with rfl | rfl <;> decide +kernel, by rcases hw with rfl | rfl <;> decide +kernel⟩))
theorem step_good {p n : Int} {ws : List Str} {x : U} {s : Rs} (hp : 2 ≤ p) (hx : OpOk p n ws x) (g : GoodS p n s) : GoodS p n (stepS p s x) := by
  rcases hx.cases with ⟨a, rfl, a0, a1⟩ | ⟨a, rfl, a0, a1⟩ | hc
  · rw [step_rd]
    exact ⟨g.r.set (g.i.hd hp), by simp; exact g.l, g.o, fun r hr => g.i r (List.mem_of_mem_tail hr)⟩
  · rw [step_wr]
    refine ⟨g.r, g.l, fun r hr => ?_, g.i⟩
    rcases List.mem_append.mp hr with hr | hr
    · exact g.o r hr
    · rw [List.mem_singleton.mp hr]; exact g.r.get hp _
  · rw [step_cm hc]
    exact ⟨aft_in hx hp g.r ⟨by omega, by omega⟩, by rw [aft_len]; exact g.l, g.o, g.i⟩
theorem st_good {p n : Int} {ws : List Str} (hp : 2 ≤ p) : ∀ {l : List U} {s : Rs}, (∀ x ∈ l, OpOk p n ws x) → GoodS p n s → GoodS p n (stF p l s)
  | [], _, _, g => g
  | x :: l, s, h, g => st_good hp (l := l) (fun y hy => h y (List.mem_cons_of_mem _ hy)) (step_good hp (h x (List.mem_cons_self ..)) g)
theorem wt_w {v w : Str} {r : List U} : wt [v] (.tup (.str w :: r)) = if w = v then 1 else 0 := by
  show (if ([v] : List Str) = [] ∨ w ∈ ([v] : List Str) then 1 else 0) = _
  by_cases h : w = v
  · subst h; simp
  · rw [if_neg h, if_neg (by simp; exact h)]
/-- inputs left, outputs so far -/
theorem st_cnt {p n : Int} {ws : List Str} : ∀ {l : List U} {s : Rs}, (∀ x ∈ l, OpOk p n ws x) → (stF p l s).2.2 = s.2.2.drop (cwt ["read"] l).toNat ∧ ((stF p l s).2.1.length : Int) = s.2.1.length + cwt ["write"] l
  | [], s, _ => ⟨rfl, by simp [stF, cwt]⟩
  | x :: l, s, h => by
    have ih := st_cnt (l := l) (s := stepS p s x) fun y hy => h y (List.mem_cons_of_mem _ hy)
    have hc1 := (cwt_nn ["read"] l).1
    show (stF p l (stepS p s x)).2.2 = _ ∧ ((stF p l (stepS p s x)).2.1.length : Int) = _
    have e1 : ∀ w, cwt [w] (x :: l) = wt [w] x + cwt [w] l := fun w => rfl
    rw [ih.1, ih.2, e1, e1]
    rcases (h x (List.mem_cons_self ..)).cases with ⟨a, rfl, _⟩ | ⟨a, rfl, _⟩ | hc
    · rw [step_rd, wt_w, wt_w, if_pos rfl, if_neg (by decide +kernel)]
      refine ⟨?_, by simp⟩
      simp only []
      rw [← List.drop_one, List.drop_drop]
      congr 1
      omega
    · rw [step_wr, wt_w, wt_w, if_pos rfl, if_neg (by decide +kernel)]
      exact ⟨by simp, by simp; omega⟩
    · rw [step_cm hc]
      rcases hc with ⟨w, a, c, rfl, h1, h2⟩ | ⟨w, a, b, c, rfl, h1, h2⟩
      · rw [wt_w, wt_w, if_neg h1, if_neg h2]
        exact ⟨by simp, by simp⟩
      · rw [wt_w, wt_w, if_neg h1, if_neg h2]
        exact ⟨by simp, by simp⟩
local macro_rules | `(tactic| rfl') => `(tactic| repeat (first | with_reducible refine Lf.kS_nx ?_ | with_reducible refine Lf.kS_rt ?_ | with_reducible refine Lf.kS_bk ?_ | with_reducible refine Lf.kS_ct ?_ | with_reducible refine Lf.kD_rt ?_ | with_reducible refine Lf.kD_nx ?_ | with_reducible refine Lf.kF_nx ?_ | with_reducible refine Lf.kF_ct ?_ | with_reducible refine Lf.kF_bk ?_ | with_reducible refine Lf.kF_rt ?_ | with_reducible refine Lf.v_ifT ?_ | with_reducible refine Lf.v_ifF ?_ | with_reducible refine Lf.v_ifNT ?_ | with_reducible refine Lf.v_ifNF ?_ | with_reducible refine Lf.kP_int ?_ | with_reducible refine Lf.kP_bl ?_ | with_reducible refine Lf.kP_str ?_ | with_reducible refine Lf.kP_non ?_ | with_reducible refine Lf.v_iadd ?_ | with_reducible refine Lf.Wp.ok ?_ | with_reducible refine Lf.seq_wp ?_ | with_reducible refine Lf.v_bin ?_ | with_reducible refine Lf.v_cons ?_ | with_reducible refine Lf.v_call ?_ | with_reducible refine Lf.v_ret ?_ | with_reducible refine Lf.v_set ?_ | with_reducible refine Lf.v_asg ?_ | with_reducible refine Lf.v_if ?_ | with_reducible refine Lf.v_ifE ?_ | with_reducible refine Lf.v_bl ?_ | with_reducible refine Lf.v_tru ?_ | with_reducible refine Lf.v_and ?_ | with_reducible refine Lf.v_or ?_ | with_reducible refine Lf.v_not ?_ | with_reducible refine Lf.v_andV ?_ | with_reducible refine Lf.v_orV ?_ | with_reducible refine Lf.v_notV ?_ | with_reducible refine Lf.v_c ?_ | with_reducible refine Lf.v_nil ?_ | with_reducible refine Lf.v_skip ?_ | with_reducible refine Lf.v_drop ?_ | with_reducible refine Lf.v_retN ?_ | with_reducible refine Lf.v_brk ?_ | with_reducible refine Lf.v_cnt ?_ | with_reducible refine Lf.v_nm ?_ | with_reducible refine Lf.v_gnil ?_ | with_reducible refine Lf.v_gcons ?_ | with_reducible refine Lf.v_yes ?_ | with_reducible refine Lf.v_for ?_ | with_reducible refine Lf.v_lc ?_ | with_reducible refine Lf.v_rg ?_ | with_reducible refine Lf.v_iter ?_ | with_reducible refine Lf.v_iterT ?_ | with_reducible refine Lf.v_add ?_ | with_reducible refine Lf.v_sub ?_ | with_reducible refine Lf.v_neg ?_ | with_reducible refine Lf.v_lt ?_ | with_reducible refine Lf.v_le ?_ | with_reducible refine Lf.v_gt ?_ | with_reducible refine Lf.v_ge ?_ | with_reducible refine Lf.v_eqI ?_ | with_reducible refine Lf.v_neI ?_ | with_reducible refine Lf.v_abs ?_ | with_reducible refine Lf.v_intI ?_ | with_reducible refine Lf.v_intB ?_ | with_reducible refine Lf.v_max2 ?_ | with_reducible refine Lf.v_min2 ?_ | with_reducible refine Lf.v_lenT ?_ | with_reducible refine Lf.v_lenN ?_ | with_reducible refine Lf.v_nw ?_ | with_reducible refine Lf.v_un ?_ | with_reducible refine Lf.v_tup ?_ | with_reducible refine Lf.v_lst ?_ | with_reducible refine Lf.v_par2 ?_ | with_reducible refine Lf.v_par3 ?_ | with_reducible refine Lf.v_chain ?_ | with_reducible refine Lf.v_meth ?_ | with_reducible refine Lf.v_subT ?_ | with_reducible refine Lf.v_isiIB ?_ | with_reducible refine Lf.v_isiII ?_ | with_reducible refine Lf.v_sl ?_ | with_reducible refine Lf.v_noP ?_ | with_reducible refine Lf.v_pt ?_ | with_reducible refine Lf.v_cutT ?_ | ((with_reducible apply Lf.v_var); exact rfl) | ((with_reducible refine Lf.v_kw ?_ ?_); exact rfl) | ((with_reducible apply Lf.v_iterO); first | exact rfl | assumption) | ((with_reducible apply Lf.v_lenL); first | exact rfl | assumption) | ((with_reducible refine Lf.v_unp ?_ ?_); exact rfl) | ((with_reducible apply Lf.v_aug); exact rfl) | ((with_reducible refine Lf.v_mod ?_ ?_); first | decide | omega | assumption | fail) | ((with_reducible refine Lf.v_div ?_ ?_); first | exact ⟨by decide, by decide +kernel⟩ | assumption | exact Lf.log2d (by omega) ⟨by omega, by omega⟩ | fail) | ((with_reducible refine Lf.v_mul ?_ ?_); first | exact Lf.log2m ⟨by omega, by omega⟩ ⟨by omega, by omega⟩ | exact Lf.log2m (by assumption) ⟨by omega, by omega⟩ | exact Lf.log2m ⟨by omega, by omega⟩ (by assumption) | fail) | ((with_reducible refine Lf.v_pow ?_ ?_); exact ⟨by decide, by decide, by decide⟩) | ((with_reducible refine Lf.v_rg1 ?_ ?_); first | decide | fail) | ((with_reducible apply Lf.v_ixL); (first | exact rfl | assumption | fail); (first | exact rfl | assumption | fail)) | ((with_reducible apply Lf.v_ixT); (first | exact rfl | assumption | fail)) | ((with_reducible apply Lf.v_ixN); (first | exact rfl | assumption | fail)) | with_reducible refine ⟨_, rfl, ?_⟩ | (refine ⟨_, (rfl : Lf.tru _ (Lf.U.bl _) = some _), ?_⟩) | with_reducible refine ⟨_, _, rfl, ?_⟩ | with_reducible refine ⟨_, _, _, rfl, ?_⟩ | (refine ⟨(Nat.le_of_ble_eq_true rfl : List.length _ ≤ 16777216), ?_⟩) | with_reducible refine Lf.v_enum ?_ | fail))
local macro_rules | `(tactic| bv_omega) => `(tactic| repeat (first | with_reducible refine Lf.kS_nx ?_ | with_reducible refine Lf.kS_rt ?_ | with_reducible refine Lf.kS_bk ?_ | with_reducible refine Lf.kS_ct ?_ | with_reducible refine Lf.kD_rt ?_ | with_reducible refine Lf.kD_nx ?_ | with_reducible refine Lf.kF_nx ?_ | with_reducible refine Lf.kF_ct ?_ | with_reducible refine Lf.kF_bk ?_ | with_reducible refine Lf.kF_rt ?_ | with_reducible refine Lf.v_ifT ?_ | with_reducible refine Lf.v_ifF ?_ | with_reducible refine Lf.v_ifNT ?_ | with_reducible refine Lf.v_ifNF ?_ | with_reducible refine Lf.kP_int ?_ | with_reducible refine Lf.kP_bl ?_ | with_reducible refine Lf.kP_str ?_ | with_reducible refine Lf.kP_non ?_ | with_reducible refine Lf.v_iadd ?_ | with_reducible refine Lf.Wp.ok ?_ | with_reducible refine Lf.seq_wp ?_ | with_reducible refine Lf.v_bin ?_ | with_reducible refine Lf.v_cons ?_ | with_reducible refine Lf.v_call ?_ | with_reducible refine Lf.v_ret ?_ | with_reducible refine Lf.v_set ?_ | with_reducible refine Lf.v_asg ?_ | with_reducible refine Lf.v_if ?_ | with_reducible refine Lf.v_ifE ?_ | with_reducible refine Lf.v_bl ?_ | with_reducible refine Lf.v_tru ?_ | with_reducible refine Lf.v_and ?_ | with_reducible refine Lf.v_or ?_ | with_reducible refine Lf.v_not ?_ | with_reducible refine Lf.v_andV ?_ | with_reducible refine Lf.v_orV ?_ | with_reducible refine Lf.v_notV ?_ | with_reducible refine Lf.v_c ?_ | with_reducible refine Lf.v_nil ?_ | with_reducible refine Lf.v_skip ?_ | with_reducible refine Lf.v_drop ?_ | with_reducible refine Lf.v_retN ?_ | with_reducible refine Lf.v_brk ?_ | with_reducible refine Lf.v_cnt ?_ | with_reducible refine Lf.v_nm ?_ | with_reducible refine Lf.v_gnil ?_ | with_reducible refine Lf.v_gcons ?_ | with_reducible refine Lf.v_yes ?_ | with_reducible refine Lf.v_for ?_ | with_reducible refine Lf.v_lc ?_ | with_reducible refine Lf.v_rg ?_ | with_reducible refine Lf.v_iter ?_ | with_reducible refine Lf.v_iterT ?_ | with_reducible refine Lf.v_add ?_ | with_reducible refine Lf.v_sub ?_ | with_reducible refine Lf.v_neg ?_ | with_reducible refine Lf.v_lt ?_ | with_reducible refine Lf.v_le ?_ | with_reducible refine Lf.v_gt ?_ | with_reducible refine Lf.v_ge ?_ | with_reducible refine Lf.v_eqI ?_ | with_reducible refine Lf.v_neI ?_ | with_reducible refine Lf.v_abs ?_ | with_reducible refine Lf.v_intI ?_ | with_reducible refine Lf.v_intB ?_ | with_reducible refine Lf.v_max2 ?_ | with_reducible refine Lf.v_min2 ?_ | with_reducible refine Lf.v_lenT ?_ | with_reducible refine Lf.v_lenN ?_ | with_reducible refine Lf.v_nw ?_ | with_reducible refine Lf.v_un ?_ | with_reducible refine Lf.v_tup ?_ | with_reducible refine Lf.v_lst ?_ | with_reducible refine Lf.v_par2 ?_ | with_reducible refine Lf.v_par3 ?_ | with_reducible refine Lf.v_chain ?_ | with_reducible refine Lf.v_meth ?_ | with_reducible refine Lf.v_subT ?_ | with_reducible refine Lf.v_isiIB ?_ | with_reducible refine Lf.v_isiII ?_ | with_reducible refine Lf.v_sl ?_ | with_reducible refine Lf.v_noP ?_ | with_reducible refine Lf.v_pt ?_ | with_reducible refine Lf.v_cutT ?_ | ((with_reducible apply Lf.v_var); exact rfl) | ((with_reducible refine Lf.v_kw ?_ ?_); exact rfl) | ((with_reducible apply Lf.v_iterO); first | exact rfl | assumption) | ((with_reducible apply Lf.v_lenL); first | exact rfl | assumption) | ((with_reducible refine Lf.v_unp ?_ ?_); exact rfl) | ((with_reducible apply Lf.v_aug); exact rfl) | ((with_reducible refine Lf.v_mod ?_ ?_); first | decide | omega | assumption | fail) | ((with_reducible refine Lf.v_div ?_ ?_); first | exact ⟨by decide, by decide +kernel⟩ | assumption | exact Lf.log2d (by omega) ⟨by omega, by omega⟩ | fail) | ((with_reducible refine Lf.v_mul ?_ ?_); first | exact Lf.log2m ⟨by omega, by omega⟩ ⟨by omega, by omega⟩ | exact Lf.log2m (by assumption) ⟨by omega, by omega⟩ | exact Lf.log2m ⟨by omega, by omega⟩ (by assumption) | fail) | ((with_reducible refine Lf.v_pow ?_ ?_); exact ⟨by decide, by decide, by decide⟩) | ((with_reducible refine Lf.v_rg1 ?_ ?_); first | decide | fail) | ((with_reducible apply Lf.v_ixL); (first | exact rfl | assumption | fail); (first | exact rfl | assumption | fail)) | ((with_reducible apply Lf.v_ixT); (first | exact rfl | assumption | fail)) | ((with_reducible apply Lf.v_ixN); (first | exact rfl | assumption | fail)) | with_reducible refine ⟨_, rfl, ?_⟩ | (refine ⟨_, (rfl : Lf.tru _ (Lf.U.bl _) = some _), ?_⟩) | with_reducible refine ⟨_, _, rfl, ?_⟩ | with_reducible refine ⟨_, _, _, rfl, ?_⟩ | (refine ⟨(Nat.le_of_ble_eq_true rfl : List.length _ ≤ 16777216), ?_⟩) | with_reducible refine Lf.v_enum ?_ | with_reducible refine Lf.v_eqS0 ?_ | with_reducible refine Lf.v_neT ?_ | with_reducible refine Lf.v_ix0 ?_ | with_reducible refine Lf.v_tupleT ?_ | with_reducible refine Lf.v_listT ?_ | with_reducible refine Lf.v_revT ?_ | with_reducible refine Lf.v_dic0 ?_ | with_reducible refine Lf.v_dic1 ?_ | ((with_reducible apply Lf.isl_and); (first | exact rfl | assumption | fail)) | ((with_reducible apply Lf.v_appZ); (first | exact rfl | assumption | fail); (first | omega | (simp only [List.length_append, List.length_map, List.length_cons, List.length_nil]; omega) | (simp; omega) | fail)) | ((with_reducible apply Lf.v_tupleL); (first | exact rfl | assumption | fail)) | ((with_reducible apply Lf.v_listL); (first | exact rfl | assumption | fail)) | ((with_reducible refine Lf.v_yesd ?_ ?_); (first | (with_reducible rfl) | assumption | (exact fun z => z rfl) | decide +kernel | omega | fail)) | ((with_reducible refine Lf.v_nod ?_ ?_); (first | (with_reducible rfl) | assumption | (exact fun z => z rfl) | decide +kernel | omega | fail)) | ((with_reducible refine Lf.v_yesn ?_ ?_); (first | (with_reducible rfl) | assumption | (exact fun z => z rfl) | decide +kernel | omega | fail)) | ((with_reducible refine Lf.v_non ?_ ?_); (first | (with_reducible rfl) | assumption | (exact fun z => z rfl) | decide +kernel | omega | fail)) | ((with_reducible refine Lf.kP_tup ?_ ?_); first | exact rfl | exact Lf.nrs_ints _ | assumption | fail) | ((with_reducible refine Lf.v_rg1 ?_ ?_); exact Lf.small62_of (by omega) (by omega)) | fail))
theorem rnB_ok {g sc af : List U → M U} {gt ge : Nat → List U → M U} {m m2 : Nat} (hg : g = gDef 8 (rnA sc (ge m2) af)) (hs : sc = gDef 1 (scA (gt m))) (ht : ∀ m, gt (m + 1) = gDef 4 (tmA (gt m))) (he : ∀ m, ge (m + 1) = gDef 4 (exA (ge m))) (ha : af = gDef 6 afA)
    {L : Nat} (hL : L ≤ 1000) {d : Nat} {xs : List U} (hd : d < m) (hd3 : d < m2) (hd2 : d ≤ 6) (h : Pn Op Rd L d xs) (hp : Ps 20000 d xs) {p n : Int} {ws : List Str} (p1 : 2 ≤ p) (p2 : p < 1000000) (hop : ∀ x ∈ flt d xs, OpOk p n ws x)
    {rs ins : List Int} (hn : (rs.length : Int) = n) (hr : InP p rs) (hi : InP p ins) (hil : cwt ["read"] (flt d xs) ≤ ins.length) (hil2 : ins.length ≤ 1000000) {T : Sto} {Q : U → Sto → Prop} (q : Q (.tup [.tup ((stF p (flt d xs) (rs, [], ins)).1.map .int), .tup ((stF p (flt d xs) (rs, [], ins)).2.1.map .int)]) T) :
    Wp (kdG .pur 4 g [.int p, .tup xs, .tup (rs.map .int), .tup (ins.map .int)] T) Q := by
  subst hg
  obtain ⟨f1, f2, f3⟩ := Ps.flt hp
  have htot := hp.tot
  refine purK rfl ?_ (gDef_wp ?_)
  · show (true && (nrs xs && (nrs (rs.map .int) && (nrs (ins.map .int) && true)))) = true
    rw [f3, nrs_ints, nrs_ints]; rfl
  unfold rnA
  rfl'
  refine scA_ok hs ht hL hd hd2 h ?_
  rfl'
  refine v_nod (by omega) ?_
  rfl'
  refine v_list (xs := ins.map .int) rfl ?_
  rfl'
  refine ⟨rfl, ?_⟩
  rfl'
  refine v_rvs (xs := ins.map .int) rfl ?_
  rfl'
  refine exA_ok he (N := 20000) (by decide) d m2 xs hd3 hp _ _ ?_
  generalize hl : flt d xs = l at *
  refine v_iterO (xs := l) rfl ?_
  have g0 : GoodS p n (rs, [], ins) := ⟨hr, hn, fun _ h => (nomatch h), hi⟩
  refine wp_forL (fun i η T => (∃ o7, η = [some (.int p), some (.tup xs), some (.tup (rs.map .int)), some (.tup (ins.map .int)), some (.tup ((stF p (l.take i) (rs, [], ins)).1.map .int)), some (.ob 0), some (.ob 1), o7]) ∧ T = [.lst ((stF p (l.take i) (rs, [], ins)).2.1.map .int), .lst ((stF p (l.take i) (rs, [], ins)).2.2.map .int).reverse, .lst l]) ⟨⟨_, rfl⟩, rfl⟩ (fun i η T ⟨_, e⟩ => by subst e; rfl) (fun i x η T hx ⟨⟨o7, e⟩, eT⟩ => ?_) (fun η T ⟨⟨o7, e⟩, eT⟩ => ?_)
  · subst e eT
    have hxo := hop x (List.mem_of_getElem? hx)
    have hil' := (List.getElem?_eq_some_iff.mp hx).1
    have tk : l.take (i + 1) = l.take i ++ [x] := by rw [List.take_succ, hx]; rfl
    have gi := st_good p1 (l := l.take i) (s := (rs, [], ins)) (fun y hy => hop y (List.mem_of_mem_take hy)) g0
    have ci := st_cnt (l := l.take i) (s := (rs, [], ins)) (fun y hy => hop y (List.mem_of_mem_take hy)) (p := p)
    have cn := cwt_nn ["write"] (l.take i)
    have e1 : stF p (l.take (i + 1)) (rs, [], ins) = stepS p (stF p (l.take i) (rs, [], ins)) x := by rw [tk, stF_app]; rfl
    have cr : cwt ["read"] (l.take i) + wt ["read"] x ≤ ins.length := by
      have h1 : cwt ["read"] l = cwt ["read"] (l.take (i + 1)) + cwt ["read"] (l.drop (i + 1)) := by rw [← cwt_app, List.take_append_drop]
      have h2 := (cwt_nn ["read"] (l.drop (i + 1))).1
      have h3 : cwt ["read"] (l.take (i + 1)) = cwt ["read"] (l.take i) + wt ["read"] x := by rw [tk, cwt_app]; simp [cwt]
      omega
    rw [e1]
    have cr0 := (cwt_nn ["read"] (l.take i)).1
    generalize stF p (l.take i) (rs, [], ins) = s at *
    obtain ⟨s1, s2, s3⟩ := s
    obtain ⟨gr, gl, go, gi⟩ := gi
    simp only at gr gl go gi ci
    rcases hxo.cases with ⟨a, rfl, a0, a1⟩ | ⟨a, rfl, a0, a1⟩ | hc
    · rw [wt_w, if_pos rfl] at cr
      have hne : s3 ≠ [] := fun z => by
        have := congrArg List.length ci.1
        rw [z, List.length_drop] at this
        simp at this
        omega
      obtain ⟨v, s3', rfl⟩ : ∃ v s3', s3 = v :: s3' := by
        cases s3 with
        | nil => exact absurd rfl hne
        | cons v s3' => exact ⟨v, s3', rfl⟩
      rw [step_rd]
      have hpop : ∀ T0 T2 : O, Wp (gPop (.ob 1) [] [T0, .lst (((v :: s3').map U.int).reverse), T2]) fun u T => u = .int v ∧ T = [T0, .lst ((s3'.map U.int).reverse), T2] := fun T0 T2 => by
        have e3 : ((v :: s3').map U.int).reverse = (s3'.map U.int).reverse ++ [U.int v] := by simp
        rw [e3]
        unfold gPop
        show Wp (match ((s3'.map U.int).reverse ++ [U.int v])[((s3'.map U.int).reverse ++ [U.int v]).length - 1]? with
          | some u => .ok u ([T0, O.lst ((s3'.map U.int).reverse ++ [.int v]), T2].set 1 (.lst ((s3'.map U.int).reverse ++ [U.int v]).dropLast))
          | none => .no) _
        rw [List.length_append, List.length_singleton, Nat.add_sub_cancel, List.getElem?_append_right (Nat.le_refl _), Nat.sub_self]
        refine .ok ⟨rfl, ?_⟩
        rw [List.dropLast_concat]; rfl
      try dsimp only
      bv_omega
      refine (hpop _ _).mono fun u T ⟨eu, eT⟩ => ?_
      subst eu eT
      bv_omega
      refine afA_ok ha hxo p1 p2 gl gr ?_
      have ea : aft p (.tup [.str "read", .int a]) s1 v = s1.set a.toNat v := by
        show (if Str.ofString "read" = Str.ofString "read" then s1.set a.toNat v else s1) = _
        rw [if_pos rfl]
      rw [ea]
      bv_omega
      exact ⟨⟨_, rfl⟩, rfl⟩
    · rw [step_wr]
      try dsimp only
      bv_omega
      refine v_ixT (atI_regs a0 (by omega)) ?_
      bv_omega
      refine v_app rfl ⟨by rw [List.length_map]; have h9 := ci.2; simp at h9; rw [List.length_take] at cn; omega, ?_⟩
      bv_omega
      refine afA_ok ha hxo p1 p2 gl gr ?_
      have ea : aft p (.tup [.str "write", .int a]) s1 0 = s1 := by
        show (if Str.ofString "write" = Str.ofString "read" then s1.set a.toNat 0 else s1) = _
        rw [if_neg (by decide +kernel)]
      rw [ea]
      bv_omega
      exact ⟨⟨_, rfl⟩, by simp⟩
    · rw [step_cm hc]
      have h2 : ∃ w r, x = .tup (.str w :: r) ∧ w ≠ "read" ∧ w ≠ "write" := by
        rcases hc with ⟨w, a, c, rfl, h1, h2⟩ | ⟨w, a, b, c, rfl, h1, h2⟩
        · exact ⟨w, _, rfl, h1, h2⟩
        · exact ⟨w, _, rfl, h1, h2⟩
      obtain ⟨w, r, ex, h1, h2⟩ := h2
      rw [ex]
      bv_omega
      rw [← ex]
      refine afA_ok ha hxo p1 p2 gl gr ?_
      bv_omega
      exact ⟨⟨_, rfl⟩, rfl⟩
  · subst e eT
    rw [List.take_length]
    bv_omega
    refine kP_tup ?_ q
    show (nrs (List.map U.int _) && (nrs (List.map U.int _) && true)) = true
    rw [nrs_ints, nrs_ints]; rfl
def wcA (tm : List U → M U) : FxS := fRet (fCall (kdG .pur 2 tm) (fCons (fVar 0) (fCons (fTup (fCons (fC (.str "write")) (fNil))) (fNil))))
theorem wcA_ok {g : List U → M U} {gt : Nat → List U → M U} {m : Nat} (hg : g = gDef 1 (wcA (gt m))) (ht : ∀ m, gt (m + 1) = gDef 4 (tmA (gt m))) {L : Nat} (hL : L ≤ 1000) {d : Nat} {xs : List U} (hd : d < m) (hd2 : d ≤ 6) (h : Pn Op Rd L d xs) {T : Sto} {Q : U → Sto → Prop} (q : Q (.int (cwt ["write"] (flt d xs))) T) : Wp (kdG .pur 1 g [.tup xs] T) Q := by
  subst hg
  refine purK rfl ?_ (gDef_wp ?_)
  · show (nrs xs && true) = true
    rw [h.nrs]; rfl
  unfold wcA
  bv_omega
  refine tm_ok ht (ws := ["write"]) (.inr ⟨"write", by decide +kernel, rfl⟩) hL d m xs hd hd2 h _ _ ?_
  rw [cnt_flt (R := Rd) (fun k h => h.1) h]
  bv_omega
  exact q
/-! values that can be compared -/
theorem Rp.lay {T : Sto} {u : U} {k b : Nat} (h : Rp T u k b) (hk : k ≤ 64) : Lay T u := by
  obtain ⟨d, h1, h2, h3, h4, h5, h6⟩ := h
  refine ⟨d, h1 66 (by omega), ?_⟩
  simp [SeqAt.shaped, h3]
  omega
/-- two lists in the store that hold the same -/
theorem v_neLL {T : Sto} {Q : U → Sto → Prop} {i j : Nat} {us : List U} {k b : Nat} (e1 : T[i]? = some (.lst us)) (e2 : T[j]? = some (.lst us)) (h : Rps T us k b) (hk : k ≤ 63) (q : Q (.bl false) T) : Wp (gEq true (.ob i) (.ob j) T) Q := by
  obtain ⟨d1, a1, a2, a3, a4, a5, a6, _⟩ := Rp.ob e1 h
  obtain ⟨d2, b1, _, b3, b4, _⟩ := Rp.ob e2 h
  have hd : dat T 66 (.ob i) = dat T 66 (.ob j) := by
    show (match T[i]? with
      | some (.lst xs) => (dats (dat T 65) xs).map PyData.list
      | _ => none) = (match T[j]? with
      | some (.lst xs) => (dats (dat T 65) xs).map PyData.list
      | _ => none)
    rw [e1, e2]
  have h2 := b1 66 (by omega)
  have hs : SeqAt.shaped d2 = true := by simp [SeqAt.shaped, b3]; omega
  refine v_neD (hd.trans h2) h2 hs hs ?_
  rw [SeqAt.eqv_refl _ b3]
  exact q
end Lf


set_option Elab.async false
set_option linter.all false
set_option maxRecDepth 100000
set_option maxHeartbeats 4000000
/-! ## comprehensions over a list in the store -/
namespace Lf
open PySem PySem.Spec L2
theorem wp_lcOG {G : U → Lo → M Lo} {Ft : FxT} {Fe : FxE} {η : Lo} (k : Nat) (xs : List U) (I : Nat → List U → Sto → Prop) {Q : U → Sto → Prop}
    (hk : ∀ i acc T, I i acc T → T[k]? = some (.lst xs))
    (step : ∀ i x acc T, xs[i]? = some x → I i acc T → Wp (G x η T) fun η1 T1 => Wp (Ft η1 T1) fun b T2 => (b = true → Wp (Fe η1 T2) fun y T3 => acc.length < 16777216 ∧ I (i + 1) (acc ++ [y]) T3) ∧ (b = false → I (i + 1) acc T2))
    (hend : ∀ acc T, I xs.length acc T → Q (.ob T.length) (T ++ [.lst acc])) : ∀ n i acc T, i + n = xs.length → I i acc T → Wp (lcN G Ft Fe (fun T => (lstAt T k xs.length).isSome) η ((List.range' i n).map fun i T => (lstAt T k xs.length).bind (·[i]?)) acc T) Q
  | 0, i, acc, T, e, h => by
    have hl : lstAt T k xs.length = some xs := by unfold lstAt; rw [hk i acc T h]; simp
    show Wp (if (lstAt T k xs.length).isSome = true then nw (.lst acc) T else .no) Q
    simp only [hl, Option.isSome_some, if_true]
    have : i = xs.length := by omega
    exact .ok (hend _ _ (this ▸ h))
  | n + 1, i, acc, T, e, h => by
    have hl : lstAt T k xs.length = some xs := by unfold lstAt; rw [hk i acc T h]; simp
    have hi : i < xs.length := by omega
    rw [List.range'_succ, List.map_cons]
    unfold lcN
    simp only [hl, Option.bind_some, List.getElem?_eq_getElem hi]
    refine .bindE (step i xs[i] acc T (List.getElem?_eq_getElem hi) h) fun η1 T1 h1 => .bindE h1 fun b T2 h2 => ?_
    cases b with
    | true =>
      rw [if_pos rfl]
      refine .bindE (h2.1 rfl) fun y T3 h3 => ?_
      rw [if_pos h3.1]
      exact wp_lcOG k xs I hk step hend n (i + 1) _ T3 (by omega) h3.2
    | false =>
      rw [if_neg (by decide)]
      exact wp_lcOG k xs I hk step hend n (i + 1) acc T2 (by omega) (h2.2 rfl)
theorem wp_lcO {G : U → Lo → M Lo} {Ft : FxT} {Fe : FxE} {η : Lo} {k : Nat} {xs : List U} (I : Nat → List U → Sto → Prop) {Q : U → Sto → Prop} {T : Sto} (h0 : I 0 [] T)
    (hk : ∀ i acc T, I i acc T → T[k]? = some (.lst xs))
    (step : ∀ i x acc T, xs[i]? = some x → I i acc T → Wp (G x η T) fun η1 T1 => Wp (Ft η1 T1) fun b T2 => (b = true → Wp (Fe η1 T2) fun y T3 => acc.length < 16777216 ∧ I (i + 1) (acc ++ [y]) T3) ∧ (b = false → I (i + 1) acc T2))
    (hend : ∀ acc T, I xs.length acc T → Q (.ob T.length) (T ++ [.lst acc])) : Wp (lcN G Ft Fe (objI k xs.length).fin η (objI k xs.length).its [] T) Q := by
  unfold objI
  rw [List.range_eq_range']
  exact wp_lcOG k xs I hk step hend xs.length 0 [] T (Nat.zero_add _) h0
/-- the reads of a list, picked out -/
theorem reads_cnt {l : List U} {i : Nat} {x : U} (hx : l[i]? = some x) : cwt ["read"] (l.take (i + 1)) = cwt ["read"] (l.take i) + wt ["read"] x := by
  rw [List.take_succ, hx, cwt_app]
  simp [cwt]
end Lf


set_option Elab.async false
set_option linter.all false
set_option maxRecDepth 100000
set_option maxHeartbeats 4000000
/-! ## max(l, default=d), l.count(text) -/
namespace Lf
open PySem PySem.Spec L2
section
variable {X : Cx} {E : XK}
def FCallK (X : Cx) (E : XK) (f : Value) (ks : List Str) (g : List U → List U → M U) : Prop :=
  ∃ r : List V → List V → Hp → VK → Prop, CallRK X f ks r ∧ ∀ (ρ : List Addr) (H : Hp) (T : Sto) (us ws : List U) (xs zs : List V) (Q : V → Hp → Prop), RS X.K ρ H T → RVs X.K ρ H us xs → RVs X.K ρ H ws zs → OK X.K ρ H E (rV X.K) (g us ws T) Q → r xs zs H Q
def fCallK (g : List U → List U → M U) (Fa Fk : FxA) : FxE := fun η T => (Fa η T).bind fun us T1 => (Fk η T1).bind fun ws T2 => g us ws T2
variable {x : Str} {p pos : Pos} {e : Expr} {es : List Expr} {Fr Fk : FxA} {kws : List Keyword} {ks : List Str}
theorem fe_callBK {id : String} {g : List U → List U → M U} (hc : FCallK X E (.builtin id) ks g) (hg : Gl X x) (hm : X.mg x = none) (hv : bootBuiltins x = some (.builtin id)) (ha : FA X E (e :: es) Fr) (hk : FK X E kws Fk) (hn : x ≠ "__name__" := by decide)
    (hdb : (x == ("__debug__" : Str)) = false := by decide) (he : backTo pos (starEach (e :: es) X.env) = (false, eval e X.env) :: backTo pos (starEach es X.env) := by rfl) (hpl : (backTo pos (starEach (e :: es) X.env)).any (·.1) = false := by rfl)
    (hall : (backToKw pos (keywordEach kws X.env)).all (·.1.isSome) = true := by rfl) (hnone : (backToKw pos (keywordEach kws X.env)).any (·.1.isNone) = false := by rfl) (hks : (backToKw pos (keywordEach kws X.env)).filterMap (·.1) = ks := by rfl) :
    FE X E (.Call (.Name x p) (e :: es) kws pos) (fCallK g Fr Fk) := by
  obtain ⟨r, h1, h2⟩ := hc
  obtain ⟨tr, kr, qr⟩ := ha
  obtain ⟨tk, kk, qk⟩ := hk
  refine ⟨_, pe_callBK h1 hg hm hv kr kk hn hdb he hpl hall hnone hks, fun σ H ρ T η Q s re h => ?_⟩
  refine qr σ H ρ T η _ s re (OK.mono (OK.bind h) fun xs H1 ⟨ρ1, T1, us, g1, s1, r1, k1⟩ => ?_)
  refine qk σ H1 ρ1 T1 η _ s1 (re.gr g1) (OK.mono (OK.bind k1) fun zs H2 ⟨ρ2, T2, ws, g2, s2, r2, k2⟩ => ?_)
  exact h2 ρ2 H2 T2 us ws xs zs Q s2 (r1.gr g2) r2 k2
/-- the greatest, or d -/
def gMaxD : List U → List U → M U := fun us ws T => match us, ws with
  | [u], [d] => match (lstU T u).bind intsU with
    | some [] => .ok d T
    | some (n :: ns) => .ok (.int (maxI n ns)) T
    | _ => .no
  | _, _ => .no
open PyProof.Rows PySem.W in
theorem call_maxD (hc : X.calm = true) (hu : X.A.units + 66 < cLine) : CallRK X (.builtin "max") [Str.ofString "default"] (fun xs zs H Q => ∃ (a : Addr) (ns : List Int) (d : V), xs = [.ref a] ∧ zs = [d] ∧ SqL X.K H a (ns.map V.int) ∧ (ns = [] → Q d H) ∧ ∀ n ms, ns = n :: ms → Q (.int (maxI n ms)) H) := by
  intro pins s σ H xs zs us ws Q I r rz h
  obtain ⟨a, ns, d, rfl, rfl, hq, q0, q1⟩ := h
  obtain ⟨u, rfl, ru⟩ := r.one
  cases ru
  obtain ⟨dv, rfl, rd⟩ := rz.one
  obtain ⟨its, rv, pl, _⟩ := I.list hq
  have hi := rv.ints
  have ra := hi.reads s.heap
  have hh := (I.ok.hd hc)
  refine max_list_datum_default (α := Int) (xs := ns) (d := dv) hh pl.isList ⟨[], by rw [List.toList_toArray]; exact ra⟩ (by show X.A.units + 1 + 0 < cLine; omega) (fun e h' tk hk => ?_) fun n ms i v h' tk e hv hd hk => ?_
  · exact ⟨d, H, I.kept hk, rd, q0 e⟩
  · obtain ⟨as, hr⟩ := hd
    obtain ⟨t, rfl, _⟩ := reads_int_inv hr
    have e2 : maxOf n ms = maxI n ms := by
      unfold maxOf maxI
      congr 1
      funext a b
      show (if decide (a < b) = true then b else a) = _
      by_cases hb : a < b <;> simp [hb]
    refine ⟨.int (maxI n ms), H, I.kept hk, ⟨t, ?_⟩, q1 n ms e⟩
    rw [← e2]
theorem fcl_maxD (hc : X.calm = true) (hu : X.A.units + 66 < cLine) : FCallK X E (.builtin "max") ["default"] gMaxD := by
  refine ⟨_, call_maxD hc hu, fun ρ H T us ws xs zs Q s r rz h => ?_⟩
  unfold gMaxD at h
  split at h
  · rename_i u d
    split at h
    · rename_i e
      obtain ⟨ys, e1, e2⟩ := Option.bind_eq_some_iff.mp e
      match r, rz with
      | .cons r .nil, .cons r2 .nil =>
        obtain ⟨a, vs, rfl, sq, rs⟩ := lstU_ok s r e1
        have := intsU_ok rs e2
        exact ⟨a, [], _, rfl, rfl, by rw [this] at sq; exact sq, fun _ => okV s h r2, fun _ _ e => by cases e⟩
    · rename_i n ns e
      obtain ⟨ys, e1, e2⟩ := Option.bind_eq_some_iff.mp e
      match r, rz with
      | .cons r .nil, .cons r2 .nil =>
        obtain ⟨a, vs, rfl, sq, rs⟩ := lstU_ok s r e1
        have := intsU_ok rs e2
        exact ⟨a, n :: ns, _, rfl, rfl, by rw [this] at sq; exact sq, (fun e => by cases e), fun _ _ e => by cases e; exact okV s h (.int _)⟩
    · exact False.elim h
  · exact False.elim h
/-! l.count(text) -/
def strsU : List U → Option (List Str)
  | [] => some []
  | .str b :: us => (strsU us).map (b :: ·)
  | _ :: _ => none
theorem strsU_ok {K : PySem.W.Frag} {ρ : List Addr} {H : Hp} : ∀ {us : List U} {vs : List V} {bs : List Str}, RVs K ρ H us vs → strsU us = some bs → vs = bs.map V.str
  | _, _, _, .nil, e => by cases e; rfl
  | u :: us, _, bs, .cons r rs, e => by
    cases u with
    | str b =>
      obtain ⟨cs, h1, h2⟩ := Option.map_eq_some_iff.mp e
      subst h2
      cases r
      rw [strsU_ok rs h1]
      rfl
    | _ => cases e
theorem countP_isStr (k : Str) : ∀ {vs : List Value} {ys : List Str}, PyProof.Rows.StrsAre vs ys → vs.countP (PyProof.Rows.isStrOf k) = ys.countP (· == k)
  | _, _, .nil => rfl
  | _, _, .cons n u h => by
    rw [List.countP_cons, List.countP_cons, countP_isStr k h]
    rfl
open PyProof.Rows in
theorem mt_countS : MtR X "list.count" (fun x xs H Q => ∃ (p : Addr) (ns : List Str) (k : Str), x = .ref p ∧ xs = [.str k] ∧ SqL X.K H p (ns.map V.str) ∧ Q (.int (ns.countP (· == k) : Nat)) H) := by
  intro pins s σ H x xs v us Q I rx rxs h
  obtain ⟨p, ns, k, rfl, rfl, hs, q⟩ := h
  cases rx
  obtain ⟨u, rfl, ru⟩ := rxs.one
  obtain ⟨t, rfl⟩ := ru
  obtain ⟨its, rv, ⟨⟨cls, dd, data, sl⟩, n, ho, hc, hdn, hd⟩, hlen⟩ := I.list hs
  simp only at hc hd
  subst hc hd
  have hi := strs_of_vals rv
  refine call_meets PySem.F.slot_list_count ⟨_, ho, rfl⟩ PySem.F.entry_list_count (PySem.F.args_list_count_2 _ _)
    (SeqAt.list_countAt p its.toArray n dd sl (.str k t) (isStrOf k)) ⟨ho, fun y hy => (eq_isStrOf k t hi y (by simpa using hy)).at _ _, ?_⟩
  have ec : its.toArray.toList.countP (isStrOf k) = ns.countP (· == k) := countP_isStr k hi
  refine ⟨.int (ns.countP (· == k) : Nat), H, I.tok _, ⟨s.toks, ?_⟩, q⟩
  rw [ec]
def gCountS : U → List U → M U := fun o us T => match us with
  | [.str k] => match (lstU T o).bind strsU with
    | some ns => .ok (.int (ns.countP (· == k) : Nat)) T
    | _ => .no
  | _ => .no
theorem fmt_countS : FMt X E "list.count" gCountS := by
  refine ⟨_, mt_countS, fun ρ H T o us x xs Q s ro r h => ?_⟩
  unfold gCountS at h
  split at h
  · rename_i k
    split at h
    · rename_i ns e
      obtain ⟨ys, e1, e2⟩ := Option.bind_eq_some_iff.mp e
      match r with
      | .cons (.str _) .nil =>
        obtain ⟨a, vs, rfl, sq, rs⟩ := lstU_ok s ro e1
        have := strsU_ok rs e2
        exact ⟨a, ns, k, rfl, rfl, by rw [this] at sq; exact sq, okV s h (.int _)⟩
    · exact False.elim h
  · exact False.elim h
end
theorem v_maxD0 {u d : U} {T : Sto} {Q : U → Sto → Prop} (e : lstU T u = some []) (q : Q d T) : Wp (gMaxD [u] [d] T) Q := by
  unfold gMaxD
  simp only [e, Option.bind_some, intsU]
  exact .ok q
theorem v_maxD {u d : U} {n : Int} {ns : List Int} {T : Sto} {Q : U → Sto → Prop} (e : lstU T u = some ((n :: ns).map .int)) (e2 : intsU ((n :: ns).map .int) = some (n :: ns)) (q : Q (.int (maxI n ns)) T) : Wp (gMaxD [u] [d] T) Q := by
  unfold gMaxD
  simp only [e, Option.bind_some, e2]
  exact .ok q
theorem strsU_map : ∀ ns : List Str, strsU (ns.map .str) = some ns
  | [] => rfl
  | n :: ns => by
    show (strsU (ns.map .str)).map (n :: ·) = _
    rw [strsU_map ns]
    rfl
theorem v_countS {k : Nat} {x : Str} {xs : List U} {ns : List Str} {T : Sto} {Q : U → Sto → Prop} (e : T[k]? = some (.lst xs)) (e2 : xs = ns.map .str) (q : Q (.int (ns.countP (· == x) : Nat)) T) : Wp (gCountS (.ob k) [.str x] T) Q := by
  unfold gCountS lstU
  subst e2
  simp only [e, Option.bind_some, strsU_map]
  exact .ok q
theorem v_callK {g : List U → List U → M U} {Fa Fk : FxA} {η : Lo} {T : Sto} {Q : U → Sto → Prop} (h : Wp (Fa η T) fun us T1 => Wp (Fk η T1) fun ws T2 => Wp (g us ws T2) Q) : Wp (fCallK g Fa Fk η T) Q := by
  unfold fCallK
  exact Wp.bind (h.mono fun us T1 h1 => Wp.bind (h1.mono fun ws T2 h2 => h2))
end Lf


set_option Elab.async false
set_option linter.all false
set_option maxRecDepth 100000
set_option maxHeartbeats 4000000
/-! ## zip of two, three lists or tuples (printed by zipgen.py) -/
namespace Lf
open PySem PySem.Spec L2
def SqB (b : Bool) (K : PySem.W.Frag) (H : Hp) (a : Addr) (xs : List V) : Prop := match b with
  | true => SqL K H a xs
  | false => SqT K H a xs
def ItB (b : Bool) (h : Heap) (it l : Addr) (i : Nat) : Prop := match b with
  | true => h.IsListIter it l i
  | false => h.IsTupleIter it l i
def HqB (b : Bool) (h : Heap) (l : Addr) (vs : Array Value) : Prop := match b with
  | true => h.IsList l vs
  | false => h.IsTuple l vs
def obB (b : Bool) (l : Addr) : Obj := { cls := .type (if b then "list_iterator" else "tuple_iterator"), data := .fields #[.ref l, .int 0 0] }
theorem vals_cons {x : V} {xs : List V} {us : List Value} (r : Vals (x :: xs) us) : ∃ w ws, us = w :: ws ∧ RelV x w ∧ Vals xs ws := by
  cases r with
  | cons r rr => exact ⟨_, _, rfl, r, rr⟩
theorem vals_nil {us : List Value} (r : Vals [] us) : us = [] := by
  cases r
  rfl
theorem drawsB {prog : Program} {w : World} {A : Around} (b : Bool) (hh : A.handled = none) (it l : Addr) (hne : l ≠ it) (items : Array Value) :
    Draws prog w A it [it, l] items.size (fun i v => items[i]? = some v) (fun i h => ItB b h it l i ∧ HqB b h l items) := by
  cases b
  · exact Draws.tuple hh it l hne items
  · exact Draws.list hh it l hne items
theorem beginsB (b : Bool) (l : Addr) (items : Array Value) : Begins (.ref l) (obB b l) fun h => HqB b h l items := by
  cases b
  · exact begins_tuple l items
  · exact begins_list l items
theorem ItB.at {b : Bool} {h h' : Heap} {it l : Addr} {i : Nat} (x : ItB b h it l i) (k : ∀ o, h.get? it = some o → h'.get? it = some o) : ItB b h' it l i := by
  cases b
  · exact Heap.IsTupleIter.at x k
  · exact Heap.IsListIter.at x k
theorem ItB.obj {b : Bool} {h : Heap} {it l : Addr} {i : Nat} (x : ItB b h it l i) : ∃ o, h.get? it = some o ∧ ∀ v, o.data ≠ .cell v := by
  cases b
  · obtain ⟨o, e, _, d⟩ := x
    exact ⟨o, e, fun v q => by rw [d] at q; cases q⟩
  · obtain ⟨o, e, _, d⟩ := x
    exact ⟨o, e, fun v q => by rw [d] at q; cases q⟩
theorem ItB.new (b : Bool) {h : Heap} {it l : Addr} (e : h.get? it = some (obB b l)) : ItB b h it l 0 := by
  cases b
  · exact ⟨_, e, rfl, rfl⟩
  · exact ⟨_, e, rfl, rfl⟩
theorem sqB {X : Cx} {pins : List (Addr × Obj)} {σ : L2.St} {H : Hp} {s : Shared} {b : Bool} {a : Addr} {xs : List V} (I : Inv X pins σ H s) (h : SqB b X.K H a xs) :
    ∃ its : List Value, Vals xs its ∧ HqB b s.heap a its.toArray ∧ a < s.heap.objs.size := by
  cases b
  · obtain ⟨its, rv, p, _⟩ := I.tuple h
    refine ⟨its, rv, p, ?_⟩
    obtain ⟨o, e, _⟩ := id p
    exact Heap.lt_size e
  · obtain ⟨its, rv, p, _⟩ := I.list h
    exact ⟨its, rv, p.isList, p.lt⟩
theorem sqB_inj {X : Cx} {pins : List (Addr × Obj)} {σ : L2.St} {H : Hp} {s : Shared} {b : Bool} {a : Addr} {xs ys : List V} (I : Inv X pins σ H s) (h : SqB b X.K H a xs) (h2 : SqB b X.K H a ys) : xs = ys := by
  cases b
  · exact I.tuple_inj h h2
  · exact I.list_inj h h2
theorem sep2 (I l1 l2 : Nat) (h1 : l1 < I) (h2 : l2 < I) : ZipSep2 (I+4) (I+2) (I+3) I (I+1) [I,l1] [I+1,l2] := by
  constructor
  all_goals first
    | exact List.mem_cons_self ..
    | (intro h; have h : (_ : Nat) = _ := h; omega)
    | (intro h; rcases List.mem_cons.mp h with h | h
       · have h : (_ : Nat) = _ := h
         omega
       · have h : (_ : Nat) = _ := List.mem_singleton.mp h
         omega)
theorem sep3 (I l1 l2 l3 : Nat) (h1 : l1 < I) (h2 : l2 < I) (h3 : l3 < I) : ZipSep3 (I+5) (I+3) (I+4) I (I+1) (I+2) [I,l1] [I+1,l2] [I+2,l3] := by
  constructor
  all_goals first
    | exact List.mem_cons_self ..
    | (intro h; have h : (_ : Nat) = _ := h; omega)
    | (intro h; rcases List.mem_cons.mp h with h | h
       · have h : (_ : Nat) = _ := h
         omega
       · have h : (_ : Nat) = _ := List.mem_singleton.mp h
         omega)
/-! the sequences of the layer -/
def sqAt (u : U) (n : Nat) (T : Sto) : Option (List U) := match u with
  | .tup xs => if xs.length = n then some xs else none
  | .ob k => lstAt T k n
  | _ => none
def sqK : U → Bool
  | .ob _ => true
  | _ => false
def sqN (u : U) (T : Sto) : Option Nat := match u with
  | .tup xs => some xs.length
  | .ob k => match T[k]? with
    | some (.lst xs) => some xs.length
    | _ => none
  | _ => none
theorem sqAt_ok {K : PySem.W.Frag} {ρ : List Addr} {H : Hp} {T : Sto} {u : U} {n : Nat} {xs : List U} {v : V} (s : RS K ρ H T) (r : RV K ρ H u v) (e : sqAt u n T = some xs) : ∃ a vs, v = .ref a ∧ SqB (sqK u) K H a vs ∧ RVs K ρ H xs vs ∧ xs.length = n := by
  cases r with
  | tup q rs =>
    rename_i us a vs
    unfold sqAt at e
    simp only at e
    split at e
    · rename_i hl
      cases e
      exact ⟨_, _, rfl, q, rs, hl⟩
    · cases e
  | @ob k a ea =>
    obtain ⟨h1, h2⟩ := lstAt_some (show lstAt T k n = some xs from e)
    obtain ⟨b, p, vs, f1, rs⟩ := s.get h1
    rw [ea] at p
    cases p
    exact ⟨_, vs, rfl, SqL.of f1, rs, h2⟩
  | _ => cases e
theorem sqN_ok {u : U} {T : Sto} {n : Nat} (e : sqN u T = some n) : ∃ xs, sqAt u n T = some xs := by
  unfold sqN at e
  split at e
  · rename_i xs
    cases e
    exact ⟨xs, by unfold sqAt; simp only [if_true]⟩
  · split at e
    · rename_i k xs h
      cases e
      exact ⟨xs, by unfold sqAt lstAt; simp only [h, if_true]⟩
    · cases e
  · cases e
/-! ### 2 -/
def Itz2 (K : PySem.W.Frag) (b1 b2 : Bool) (l1 l2 : Addr) : It :=
  ⟨fun i H => ∃ (xs1 xs2 : List V) (x1 x2 : V), SqB b1 K H l1 xs1 ∧ SqB b2 K H l2 xs2 ∧ xs1[i]? = some x1 ∧ xs2[i]? = some x2,
    fun i H v H' => ∃ (T : Addr) (x1 x2 : V), v = .ref T ∧ H T = none ∧ H' = upd H T (.tup [x1, x2]) ∧ (∀ xs, SqB b1 K H l1 xs → xs[i]? = some x1) ∧ (∀ xs, SqB b2 K H l2 xs → xs[i]? = some x2),
    fun i H => ∃ (xs1 xs2 : List V), SqB b1 K H l1 xs1 ∧ SqB b2 K H l2 xs2 ∧ i ≤ xs1.length ∧ i ≤ xs2.length ∧ (i = xs1.length ∨ i = xs2.length)⟩
theorem turnZ2 {P : Program} {w : World} {K : PySem.W.Frag} {elts : List Expr} {kk : Nat} {tpos : Pos} {b1 b2 : Bool} {z TI TO i1 i2 l1 l2 : Addr} (D : ZipSep2 z TI TO i1 i2 [i1, l1] [i2, l2]) (n1 : l1 ≠ i1) (n2 : l2 ≠ i2) :
    Turn P w K (.Tuple elts kk tpos) (Itz2 K b1 b2 l1 l2) [z, TI, TO, i1, i2] z (fun i h => IsZip h z TI TO .none ∧ IsTupOf2 h TI (.ref i1) (.ref i2) ∧ (∃ a1 a2, IsTupOf2 h TO a1 a2) ∧ ItB b1 h i1 l1 i ∧ ItB b2 h i2 l2 i) where
  mem := by simp
  obj := fun i h st c hc => by
    obtain ⟨hz, hTI, ⟨y1, y2, hTO⟩, h1, h2⟩ := st
    have e' : c = z ∨ c = TI ∨ c = TO ∨ c = i1 ∨ c = i2 := by simpa using hc
    rcases e' with q | q | q | q | q
    · rw [q]; exact ⟨_, hz, fun v q => nomatch q⟩
    · rw [q]; exact ⟨_, hTI, fun v q => nomatch q⟩
    · rw [q]; exact ⟨_, hTO, fun v q => nomatch q⟩
    · rw [q]; exact h1.obj
    · rw [q]; exact h2.obj
  keep := fun i h h' st k => by
    obtain ⟨hz, hTI, ⟨y1, y2, hTO⟩, h1, h2⟩ := st
    exact ⟨k z (by simp) _ hz, k TI (by simp) _ hTI, ⟨y1, y2, k TO (by simp) _ hTO⟩, h1.at fun o q => k i1 (by simp) o q, h2.at fun o q => k i2 (by simp) o q⟩
  item := by
    intro X hP hw hK hc i pins s σ H E I hf st hg
    subst hP hw hK
    obtain ⟨hz, hTI, ⟨y1, y2, hTO⟩, h1, h2⟩ := st
    obtain ⟨xs1, xs2, x1, x2, q1, q2, e1, e2⟩ := hg
    obtain ⟨its1, rv1, p1, _⟩ := sqB I q1
    obtain ⟨u1, hu1, ru1⟩ := rv1.get e1
    have hl1 : i < its1.toArray.size := by have := (List.getElem?_eq_some_iff.mp hu1).1; simpa using this
    obtain ⟨its2, rv2, p2, _⟩ := sqB I q2
    obtain ⟨u2, hu2, ru2⟩ := rv2.get e2
    have hl2 : i < its2.toArray.size := by have := (List.getElem?_eq_some_iff.mp hu2).1; simpa using this
    have hzl : z < s.heap.objs.size := Heap.lt_size hz
    have D1 := drawsB (prog := X.prog) (w := X.w) (A := X.A.in1) b1 (I.ok.hd hc) i1 l1 n1 its1.toArray
    have D2 := drawsB (prog := X.prog) (w := X.w) (A := X.A.in1) b2 (I.ok.hd hc) i2 l2 n2 its2.toArray
    refine wpAny_pyNext_zipD2_item D D1 D2 hz hTI hTO ⟨h1, p1⟩ ⟨h2, p2⟩ hl1 hl2 fun w1 w2 h' tk f1 f2 z' TO' g1 g2 hT hsz hk => ?_
    have ew1 : w1 = u1 := by
      have : its1.toArray[i]? = some w1 := f1
      rw [List.getElem?_toArray, hu1] at this
      exact (Option.some.inj this).symm
    subst ew1
    have ew2 : w2 = u2 := by
      have : its2.toArray[i]? = some w2 := f2
      rw [List.getElem?_toArray, hu2] at this
      exact (Option.some.inj this).symm
    subst ew2
    refine ⟨_, rfl, wpAny_letOwnedTupleGo_zip (s := { s with heap := h', toks := tk }) z' fun h'' z'' sb => ?_⟩
    have hT2 : h''.get? s.heap.objs.size = some { cls := .type "tuple", data := .seq #[w1, w2] } := (sb.2 _ (Nat.ne_of_gt hzl)).trans hT
    have new : ObjOk X.prog X.w (upd H s.heap.objs.size (.tup [x1, x2])) h'' s.heap.objs.size (.tup [x1, x2]) :=
      ⟨by show 2 ≤ sizeLine; decide, [w1, w2], (.cons ru1 (.cons ru2 .nil)), ⟨_, hT2, rfl, _, rfl⟩⟩
    have I1 : Inv X pins σ (upd H s.heap.objs.size (.tup [x1, x2])) { s with heap := h'', toks := tk } :=
      I.turnedNew (t' := tk) (ch := [z, TI, TO, i1, i2]) (fun c o hb q => (sb.2 c (fun q' => hb (by simp [q']))).trans (hk c o (fun q' => hb (by simp [q'])) (fun q' => hb (by simp [q'])) (fun q' => hb (by simp [q'])) (fun q' => hb (by simp [q'])) q)) hf (Nat.le_refl _) new
    refine ⟨.ref s.heap.objs.size, _, I1, rfl, ⟨_, x1, x2, rfl, I.hok.fresh (Nat.le_refl _), rfl, fun l hl => by rw [sqB_inj I hl q1]; exact e1, fun l hl => by rw [sqB_inj I hl q2]; exact e2⟩, ⟨z'', ?_, ⟨w1, w2, ?_⟩, ?_, ?_⟩, fun c hcm => ?_⟩
    · exact (sb.2 _ D.TIz).trans (hk _ _ D.TIz D.TITO D.TIi1 D.TIi2 hTI)
    · exact (sb.2 _ D.TOz).trans TO'
    · exact g1.1.at fun o q => (sb.2 _ (D.zi1).symm).trans q
    · exact g2.1.at fun o q => (sb.2 _ (D.zi2).symm).trans q
    · have hlt : c < s.heap.objs.size := by
        have e' : c = z ∨ c = TI ∨ c = TO ∨ c = i1 ∨ c = i2 := by simpa using hcm
        rcases e' with q | q | q | q | q
        · rw [q]; exact hzl
        · rw [q]; exact Heap.lt_size hTI
        · rw [q]; exact Heap.lt_size hTO
        · rw [q]; obtain ⟨_, e1, _⟩ := h1.obj; exact Heap.lt_size e1
        · rw [q]; obtain ⟨_, e1, _⟩ := h2.obj; exact Heap.lt_size e1
      rw [upd_ne (Nat.ne_of_lt hlt)]
      exact (hf c hcm).1
  done := by
    intro X hP hw hK hc i pins s σ H E I hf st hg
    subst hP hw hK
    obtain ⟨hz, hTI, ⟨y1, y2, hTO⟩, h1, h2⟩ := st
    obtain ⟨xs1, xs2, q1, q2, e1, e2, hend⟩ := hg
    obtain ⟨its1, rv1, p1, _⟩ := sqB I q1
    have hl1 : xs1.length = its1.toArray.size := by rw [List.size_toArray]; exact rv1.length
    have D1 := drawsB (prog := X.prog) (w := X.w) (A := X.A.in1) b1 (I.ok.hd hc) i1 l1 n1 its1.toArray
    obtain ⟨its2, rv2, p2, _⟩ := sqB I q2
    have hl2 : xs2.length = its2.toArray.size := by rw [List.size_toArray]; exact rv2.length
    have D2 := drawsB (prog := X.prog) (w := X.w) (A := X.A.in1) b2 (I.ok.hd hc) i2 l2 n2 its2.toArray
    refine wpAny_pyNext_zipD2_end D D1 D2 hz hTI hTO ⟨h1, p1⟩ ⟨h2, p2⟩ (by omega) (by omega) (by omega) fun h' tk hk => ⟨rfl, I.turnedL (t' := tk) (ch := [z, TI, TO, i1, i2]) (fun c o hb q => hk c o (fun q' => hb (by simp [q'])) (fun q' => hb (by simp [q'])) (fun q' => hb (by simp [q'])) (fun q' => hb (by simp [q'])) q) hf⟩
  self := fun A i s Q E st h => wpAny_pyIter_zip st.1 h
def iZ2 (K : PySem.W.Frag) (ta : TA) : TI := fun σ H R => ta σ H fun vs H1 => ∃ (b1 b2 : Bool) (l1 l2 : Addr) (xs1 xs2 : List V), vs = [.ref l1, .ref l2] ∧ SqB b1 K H1 l1 xs1 ∧ SqB b2 K H1 l2 xs2 ∧ R (Itz2 K b1 b2 l1 l2) H1
theorem pi_z2 {X : Cx} {e e2 : Expr} {ta : TA} {p pos tpos : Pos} {elts : List Expr} {kk : Nat} (hg : Gl X "zip") (hm : X.mg "zip" = none) (ha : PA X [e, e2] ta)
    (hs : starEach [e, e2] X.env = (false, eval e X.env) :: starEach [e2] X.env := by rfl) (hpl : (backTo pos (starEach [e2] X.env)).any (·.1) = false := by rfl) :
    PI X (.Tuple elts kk tpos) (.Call (.Name "zip" p) [e, e2] [] pos) (iZ2 X.K ta) := by
  refine ⟨fun pins s σ H R I h => ?_⟩
  refine PyProof.Rows.Call_ (ld_blt I hg hm PyProof.Rows.boot_zip (PyProof.Rows.callWith_type1 (thn (ha.run pos pins s σ H _ I h) fun us s1 ⟨vs, H1, I1, r1, q1⟩ => ?_) hs hpl))
  obtain ⟨b1, b2, l1, l2, xs1, xs2, ex, q1, q2, q⟩ := q1
  subst ex
  obtain ⟨w1, us1, rfl, rw1, rr1⟩ := vals_cons r1
  obtain rfl : w1 = .ref l1 := rw1
  obtain ⟨w2, us2, rfl, rw2, rr2⟩ := vals_cons rr1
  obtain rfl : w2 = .ref l2 := rw2
  obtain rfl := vals_nil rr2
  · skip
    obtain ⟨its1, rv1, p1, lt1⟩ := sqB I1 q1
    obtain ⟨its2, rv2, p2, lt2⟩ := sqB I1 q2
    refine zip_begins2 (beginsB b1 l1 its1.toArray) (beginsB b2 l2 its2.toArray) p1 p2 fun h' hz hTI hTO h1 h2 hsz hk => wpAny_pyIter_zip hz ?_
    have I2 : Inv X pins σ H1 { s1 with heap := h' } := I1.kept (t' := s1.toks) hk
    have fresh : ∀ c, c ∈ [s1.heap.objs.size + 4, s1.heap.objs.size + 2, s1.heap.objs.size + 3, s1.heap.objs.size, s1.heap.objs.size + 1] → FpOk X pins H1 c := fun c hcm => by
      have hle : s1.heap.objs.size ≤ c := by
        simp only [List.mem_cons, List.not_mem_nil, or_false] at hcm
        omega
      exact I1.fpOk hle (I1.hok.fresh hle)
    have D := sep2 s1.heap.objs.size l1 l2 lt1 lt2
    exact ⟨s1.heap.objs.size + 4, [s1.heap.objs.size + 4, s1.heap.objs.size + 2, s1.heap.objs.size + 3, s1.heap.objs.size, s1.heap.objs.size + 1], _, _, H1, rfl, I2, turnZ2 (b1 := b1) (b2 := b2) D (Nat.ne_of_lt lt1) (Nat.ne_of_lt (Nat.lt_of_lt_of_le lt2 (Nat.le_add_right _ _))), ⟨hz, hTI, ⟨_, _, hTO⟩, .new b1 h1, .new b2 h2⟩, fresh, q⟩
def zipI2 (u1 u2 : U) (n1 n2 : Nat) : ItF := ⟨(List.range (min n1 n2)).map fun i T => (sqAt u1 n1 T).bind fun xs1 => (xs1[i]?).bind fun x1 => (sqAt u2 n2 T).bind fun xs2 => (xs2[i]?).bind fun x2 => some (.tup [x1, x2]), fun T => (sqAt u1 n1 T).isSome && (sqAt u2 n2 T).isSome⟩
theorem itOk_zipI2 {K : PySem.W.Frag} {ρ : List Addr} {H : Hp} {u1 u2 : U} {l1 l2 : Addr} {n1 n2 : Nat} (r1 : RV K ρ H u1 (.ref l1)) (r2 : RV K ρ H u2 (.ref l2)) : ItOk K ρ H (zipI2 u1 u2 n1 n2) (Itz2 K (sqK u1) (sqK u2) l1 l2) where
  go := fun i f ρ' H' T' u ef g s h => by
    have ef : ((List.range (min n1 n2)).map fun (i : Nat) (T : Sto) => (sqAt u1 n1 T).bind fun xs1 => (xs1[i]?).bind fun x1 => (sqAt u2 n2 T).bind fun xs2 => (xs2[i]?).bind fun x2 => some (U.tup [x1, x2]))[i]? = some f := ef
    rw [List.getElem?_map] at ef
    obtain ⟨j, q, rfl⟩ := Option.map_eq_some_iff.mp ef
    obtain rfl := range_at q
    obtain ⟨us1, h1a, hh1⟩ := Option.bind_eq_some_iff.mp h
    obtain ⟨y1, h1b, gg1⟩ := Option.bind_eq_some_iff.mp hh1
    obtain ⟨us2, h2a, hh2⟩ := Option.bind_eq_some_iff.mp gg1
    obtain ⟨y2, h2b, gg2⟩ := Option.bind_eq_some_iff.mp hh2
    obtain ⟨a1, vs1, ea1, sq1, rs1, _⟩ := sqAt_ok s (r1.gr g) h1a
    cases ea1
    obtain ⟨v1, c1, d1⟩ := rs1.get h1b
    obtain ⟨a2, vs2, ea2, sq2, rs2, _⟩ := sqAt_ok s (r2.gr g) h2a
    cases ea2
    obtain ⟨v2, c2, d2⟩ := rs2.get h2b
    exact ⟨vs1, vs2, v1, v2, sq1, sq2, c1, c2⟩
  yl := fun i f ρ' H' T' u x H'' ef g s h y => by
    have ef : ((List.range (min n1 n2)).map fun (i : Nat) (T : Sto) => (sqAt u1 n1 T).bind fun xs1 => (xs1[i]?).bind fun x1 => (sqAt u2 n2 T).bind fun xs2 => (xs2[i]?).bind fun x2 => some (U.tup [x1, x2]))[i]? = some f := ef
    rw [List.getElem?_map] at ef
    obtain ⟨j, q, rfl⟩ := Option.map_eq_some_iff.mp ef
    obtain rfl := range_at q
    obtain ⟨us1, h1a, hh1⟩ := Option.bind_eq_some_iff.mp h
    obtain ⟨y1, h1b, gg1⟩ := Option.bind_eq_some_iff.mp hh1
    obtain ⟨us2, h2a, hh2⟩ := Option.bind_eq_some_iff.mp gg1
    obtain ⟨y2, h2b, gg2⟩ := Option.bind_eq_some_iff.mp hh2
    obtain ⟨a1, vs1, ea1, sq1, rs1, _⟩ := sqAt_ok s (r1.gr g) h1a
    cases ea1
    obtain ⟨v1, c1, d1⟩ := rs1.get h1b
    obtain ⟨a2, vs2, ea2, sq2, rs2, _⟩ := sqAt_ok s (r2.gr g) h2a
    cases ea2
    obtain ⟨v2, c2, d2⟩ := rs2.get h2b
    cases gg2
    obtain ⟨D, z1, z2, rfl, nD, rfl, m1, m2⟩ := y
    have w1 := m1 vs1 sq1
    rw [c1] at w1
    cases w1
    have w2 := m2 vs2 sq2
    rw [c2] at w2
    cases w2
    have g2 : Gr K ρ' H' ρ' (upd H' D (.tup [v1, v2])) := Gr.fill nD
    exact ⟨g2, s.fill nD, .tup (SqT.of upd_same) (RVs.gr (vs := [v1, v2]) (.cons d1 (.cons d2 .nil)) g2)⟩
  st := fun ρ' H' T' g s h => by
    have h : ((sqAt u1 n1 T').isSome && (sqAt u2 n2 T').isSome) = true := h
    simp only [Bool.and_eq_true] at h
    obtain ⟨h1, h2⟩ := h
    obtain ⟨us1, h1a⟩ := Option.isSome_iff_exists.mp h1
    obtain ⟨a1, vs1, ea1, sq1, rs1, t1⟩ := sqAt_ok s (r1.gr g) h1a
    cases ea1
    have o1 := rs1.length
    obtain ⟨us2, h2a⟩ := Option.isSome_iff_exists.mp h2
    obtain ⟨a2, vs2, ea2, sq2, rs2, t2⟩ := sqAt_ok s (r2.gr g) h2a
    cases ea2
    have o2 := rs2.length
    have el : (zipI2 u1 u2 n1 n2).its.length = min n1 n2 := by show (List.map _ (List.range _)).length = _; rw [List.length_map, List.length_range]
    exact ⟨vs1, vs2, sq1, sq2, by omega, by omega, by omega⟩
/-! ### 3 -/
def Itz3 (K : PySem.W.Frag) (b1 b2 b3 : Bool) (l1 l2 l3 : Addr) : It :=
  ⟨fun i H => ∃ (xs1 xs2 xs3 : List V) (x1 x2 x3 : V), SqB b1 K H l1 xs1 ∧ SqB b2 K H l2 xs2 ∧ SqB b3 K H l3 xs3 ∧ xs1[i]? = some x1 ∧ xs2[i]? = some x2 ∧ xs3[i]? = some x3,
    fun i H v H' => ∃ (T : Addr) (x1 x2 x3 : V), v = .ref T ∧ H T = none ∧ H' = upd H T (.tup [x1, x2, x3]) ∧ (∀ xs, SqB b1 K H l1 xs → xs[i]? = some x1) ∧ (∀ xs, SqB b2 K H l2 xs → xs[i]? = some x2) ∧ (∀ xs, SqB b3 K H l3 xs → xs[i]? = some x3),
    fun i H => ∃ (xs1 xs2 xs3 : List V), SqB b1 K H l1 xs1 ∧ SqB b2 K H l2 xs2 ∧ SqB b3 K H l3 xs3 ∧ i ≤ xs1.length ∧ i ≤ xs2.length ∧ i ≤ xs3.length ∧ (i = xs1.length ∨ i = xs2.length ∨ i = xs3.length)⟩
theorem turnZ3 {P : Program} {w : World} {K : PySem.W.Frag} {elts : List Expr} {kk : Nat} {tpos : Pos} {b1 b2 b3 : Bool} {z TI TO i1 i2 i3 l1 l2 l3 : Addr} (D : ZipSep3 z TI TO i1 i2 i3 [i1, l1] [i2, l2] [i3, l3]) (n1 : l1 ≠ i1) (n2 : l2 ≠ i2) (n3 : l3 ≠ i3) :
    Turn P w K (.Tuple elts kk tpos) (Itz3 K b1 b2 b3 l1 l2 l3) [z, TI, TO, i1, i2, i3] z (fun i h => IsZip h z TI TO .none ∧ IsTupOf3 h TI (.ref i1) (.ref i2) (.ref i3) ∧ (∃ a1 a2 a3, IsTupOf3 h TO a1 a2 a3) ∧ ItB b1 h i1 l1 i ∧ ItB b2 h i2 l2 i ∧ ItB b3 h i3 l3 i) where
  mem := by simp
  obj := fun i h st c hc => by
    obtain ⟨hz, hTI, ⟨y1, y2, y3, hTO⟩, h1, h2, h3⟩ := st
    have e' : c = z ∨ c = TI ∨ c = TO ∨ c = i1 ∨ c = i2 ∨ c = i3 := by simpa using hc
    rcases e' with q | q | q | q | q | q
    · rw [q]; exact ⟨_, hz, fun v q => nomatch q⟩
    · rw [q]; exact ⟨_, hTI, fun v q => nomatch q⟩
    · rw [q]; exact ⟨_, hTO, fun v q => nomatch q⟩
    · rw [q]; exact h1.obj
    · rw [q]; exact h2.obj
    · rw [q]; exact h3.obj
  keep := fun i h h' st k => by
    obtain ⟨hz, hTI, ⟨y1, y2, y3, hTO⟩, h1, h2, h3⟩ := st
    exact ⟨k z (by simp) _ hz, k TI (by simp) _ hTI, ⟨y1, y2, y3, k TO (by simp) _ hTO⟩, h1.at fun o q => k i1 (by simp) o q, h2.at fun o q => k i2 (by simp) o q, h3.at fun o q => k i3 (by simp) o q⟩
  item := by
    intro X hP hw hK hc i pins s σ H E I hf st hg
    subst hP hw hK
    obtain ⟨hz, hTI, ⟨y1, y2, y3, hTO⟩, h1, h2, h3⟩ := st
    obtain ⟨xs1, xs2, xs3, x1, x2, x3, q1, q2, q3, e1, e2, e3⟩ := hg
    obtain ⟨its1, rv1, p1, _⟩ := sqB I q1
    obtain ⟨u1, hu1, ru1⟩ := rv1.get e1
    have hl1 : i < its1.toArray.size := by have := (List.getElem?_eq_some_iff.mp hu1).1; simpa using this
    obtain ⟨its2, rv2, p2, _⟩ := sqB I q2
    obtain ⟨u2, hu2, ru2⟩ := rv2.get e2
    have hl2 : i < its2.toArray.size := by have := (List.getElem?_eq_some_iff.mp hu2).1; simpa using this
    obtain ⟨its3, rv3, p3, _⟩ := sqB I q3
    obtain ⟨u3, hu3, ru3⟩ := rv3.get e3
    have hl3 : i < its3.toArray.size := by have := (List.getElem?_eq_some_iff.mp hu3).1; simpa using this
    have hzl : z < s.heap.objs.size := Heap.lt_size hz
    have D1 := drawsB (prog := X.prog) (w := X.w) (A := X.A.in1) b1 (I.ok.hd hc) i1 l1 n1 its1.toArray
    have D2 := drawsB (prog := X.prog) (w := X.w) (A := X.A.in1) b2 (I.ok.hd hc) i2 l2 n2 its2.toArray
    have D3 := drawsB (prog := X.prog) (w := X.w) (A := X.A.in1) b3 (I.ok.hd hc) i3 l3 n3 its3.toArray
    refine wpAny_pyNext_zipD3_item D D1 D2 D3 hz hTI hTO ⟨h1, p1⟩ ⟨h2, p2⟩ ⟨h3, p3⟩ hl1 hl2 hl3 fun w1 w2 w3 h' tk f1 f2 f3 z' TO' g1 g2 g3 hT hsz hk => ?_
    have ew1 : w1 = u1 := by
      have : its1.toArray[i]? = some w1 := f1
      rw [List.getElem?_toArray, hu1] at this
      exact (Option.some.inj this).symm
    subst ew1
    have ew2 : w2 = u2 := by
      have : its2.toArray[i]? = some w2 := f2
      rw [List.getElem?_toArray, hu2] at this
      exact (Option.some.inj this).symm
    subst ew2
    have ew3 : w3 = u3 := by
      have : its3.toArray[i]? = some w3 := f3
      rw [List.getElem?_toArray, hu3] at this
      exact (Option.some.inj this).symm
    subst ew3
    refine ⟨_, rfl, wpAny_letOwnedTupleGo_zip (s := { s with heap := h', toks := tk }) z' fun h'' z'' sb => ?_⟩
    have hT2 : h''.get? s.heap.objs.size = some { cls := .type "tuple", data := .seq #[w1, w2, w3] } := (sb.2 _ (Nat.ne_of_gt hzl)).trans hT
    have new : ObjOk X.prog X.w (upd H s.heap.objs.size (.tup [x1, x2, x3])) h'' s.heap.objs.size (.tup [x1, x2, x3]) :=
      ⟨by show 3 ≤ sizeLine; decide, [w1, w2, w3], (.cons ru1 (.cons ru2 (.cons ru3 .nil))), ⟨_, hT2, rfl, _, rfl⟩⟩
    have I1 : Inv X pins σ (upd H s.heap.objs.size (.tup [x1, x2, x3])) { s with heap := h'', toks := tk } :=
      I.turnedNew (t' := tk) (ch := [z, TI, TO, i1, i2, i3]) (fun c o hb q => (sb.2 c (fun q' => hb (by simp [q']))).trans (hk c o (fun q' => hb (by simp [q'])) (fun q' => hb (by simp [q'])) (fun q' => hb (by simp [q'])) (fun q' => hb (by simp [q'])) (fun q' => hb (by simp [q'])) q)) hf (Nat.le_refl _) new
    refine ⟨.ref s.heap.objs.size, _, I1, rfl, ⟨_, x1, x2, x3, rfl, I.hok.fresh (Nat.le_refl _), rfl, fun l hl => by rw [sqB_inj I hl q1]; exact e1, fun l hl => by rw [sqB_inj I hl q2]; exact e2, fun l hl => by rw [sqB_inj I hl q3]; exact e3⟩, ⟨z'', ?_, ⟨w1, w2, w3, ?_⟩, ?_, ?_, ?_⟩, fun c hcm => ?_⟩
    · exact (sb.2 _ D.TIz).trans (hk _ _ D.TIz D.TITO D.TIi1 D.TIi2 D.TIi3 hTI)
    · exact (sb.2 _ D.TOz).trans TO'
    · exact g1.1.at fun o q => (sb.2 _ (D.zi1).symm).trans q
    · exact g2.1.at fun o q => (sb.2 _ (D.zi2).symm).trans q
    · exact g3.1.at fun o q => (sb.2 _ (D.zi3).symm).trans q
    · have hlt : c < s.heap.objs.size := by
        have e' : c = z ∨ c = TI ∨ c = TO ∨ c = i1 ∨ c = i2 ∨ c = i3 := by simpa using hcm
        rcases e' with q | q | q | q | q | q
        · rw [q]; exact hzl
        · rw [q]; exact Heap.lt_size hTI
        · rw [q]; exact Heap.lt_size hTO
        · rw [q]; obtain ⟨_, e1, _⟩ := h1.obj; exact Heap.lt_size e1
        · rw [q]; obtain ⟨_, e1, _⟩ := h2.obj; exact Heap.lt_size e1
        · rw [q]; obtain ⟨_, e1, _⟩ := h3.obj; exact Heap.lt_size e1
      rw [upd_ne (Nat.ne_of_lt hlt)]
      exact (hf c hcm).1
  done := by
    intro X hP hw hK hc i pins s σ H E I hf st hg
    subst hP hw hK
    obtain ⟨hz, hTI, ⟨y1, y2, y3, hTO⟩, h1, h2, h3⟩ := st
    obtain ⟨xs1, xs2, xs3, q1, q2, q3, e1, e2, e3, hend⟩ := hg
    obtain ⟨its1, rv1, p1, _⟩ := sqB I q1
    have hl1 : xs1.length = its1.toArray.size := by rw [List.size_toArray]; exact rv1.length
    have D1 := drawsB (prog := X.prog) (w := X.w) (A := X.A.in1) b1 (I.ok.hd hc) i1 l1 n1 its1.toArray
    obtain ⟨its2, rv2, p2, _⟩ := sqB I q2
    have hl2 : xs2.length = its2.toArray.size := by rw [List.size_toArray]; exact rv2.length
    have D2 := drawsB (prog := X.prog) (w := X.w) (A := X.A.in1) b2 (I.ok.hd hc) i2 l2 n2 its2.toArray
    obtain ⟨its3, rv3, p3, _⟩ := sqB I q3
    have hl3 : xs3.length = its3.toArray.size := by rw [List.size_toArray]; exact rv3.length
    have D3 := drawsB (prog := X.prog) (w := X.w) (A := X.A.in1) b3 (I.ok.hd hc) i3 l3 n3 its3.toArray
    refine wpAny_pyNext_zipD3_end D D1 D2 D3 hz hTI hTO ⟨h1, p1⟩ ⟨h2, p2⟩ ⟨h3, p3⟩ (by omega) (by omega) (by omega) (by omega) fun h' tk hk => ⟨rfl, I.turnedL (t' := tk) (ch := [z, TI, TO, i1, i2, i3]) (fun c o hb q => hk c o (fun q' => hb (by simp [q'])) (fun q' => hb (by simp [q'])) (fun q' => hb (by simp [q'])) (fun q' => hb (by simp [q'])) (fun q' => hb (by simp [q'])) q) hf⟩
  self := fun A i s Q E st h => wpAny_pyIter_zip st.1 h
def iZ3 (K : PySem.W.Frag) (ta : TA) : TI := fun σ H R => ta σ H fun vs H1 => ∃ (b1 b2 b3 : Bool) (l1 l2 l3 : Addr) (xs1 xs2 xs3 : List V), vs = [.ref l1, .ref l2, .ref l3] ∧ SqB b1 K H1 l1 xs1 ∧ SqB b2 K H1 l2 xs2 ∧ SqB b3 K H1 l3 xs3 ∧ R (Itz3 K b1 b2 b3 l1 l2 l3) H1
theorem pi_z3 {X : Cx} {e e2 e3 : Expr} {ta : TA} {p pos tpos : Pos} {elts : List Expr} {kk : Nat} (hg : Gl X "zip") (hm : X.mg "zip" = none) (ha : PA X [e, e2, e3] ta)
    (hs : starEach [e, e2, e3] X.env = (false, eval e X.env) :: starEach [e2, e3] X.env := by rfl) (hpl : (backTo pos (starEach [e2, e3] X.env)).any (·.1) = false := by rfl) :
    PI X (.Tuple elts kk tpos) (.Call (.Name "zip" p) [e, e2, e3] [] pos) (iZ3 X.K ta) := by
  refine ⟨fun pins s σ H R I h => ?_⟩
  refine PyProof.Rows.Call_ (ld_blt I hg hm PyProof.Rows.boot_zip (PyProof.Rows.callWith_type1 (thn (ha.run pos pins s σ H _ I h) fun us s1 ⟨vs, H1, I1, r1, q1⟩ => ?_) hs hpl))
  obtain ⟨b1, b2, b3, l1, l2, l3, xs1, xs2, xs3, ex, q1, q2, q3, q⟩ := q1
  subst ex
  obtain ⟨w1, us1, rfl, rw1, rr1⟩ := vals_cons r1
  obtain rfl : w1 = .ref l1 := rw1
  obtain ⟨w2, us2, rfl, rw2, rr2⟩ := vals_cons rr1
  obtain rfl : w2 = .ref l2 := rw2
  obtain ⟨w3, us3, rfl, rw3, rr3⟩ := vals_cons rr2
  obtain rfl : w3 = .ref l3 := rw3
  obtain rfl := vals_nil rr3
  · skip
    obtain ⟨its1, rv1, p1, lt1⟩ := sqB I1 q1
    obtain ⟨its2, rv2, p2, lt2⟩ := sqB I1 q2
    obtain ⟨its3, rv3, p3, lt3⟩ := sqB I1 q3
    refine zip_begins3 (beginsB b1 l1 its1.toArray) (beginsB b2 l2 its2.toArray) (beginsB b3 l3 its3.toArray) p1 p2 p3 fun h' hz hTI hTO h1 h2 h3 hsz hk => wpAny_pyIter_zip hz ?_
    have I2 : Inv X pins σ H1 { s1 with heap := h' } := I1.kept (t' := s1.toks) hk
    have fresh : ∀ c, c ∈ [s1.heap.objs.size + 5, s1.heap.objs.size + 3, s1.heap.objs.size + 4, s1.heap.objs.size, s1.heap.objs.size + 1, s1.heap.objs.size + 2] → FpOk X pins H1 c := fun c hcm => by
      have hle : s1.heap.objs.size ≤ c := by
        simp only [List.mem_cons, List.not_mem_nil, or_false] at hcm
        omega
      exact I1.fpOk hle (I1.hok.fresh hle)
    have D := sep3 s1.heap.objs.size l1 l2 l3 lt1 lt2 lt3
    exact ⟨s1.heap.objs.size + 5, [s1.heap.objs.size + 5, s1.heap.objs.size + 3, s1.heap.objs.size + 4, s1.heap.objs.size, s1.heap.objs.size + 1, s1.heap.objs.size + 2], _, _, H1, rfl, I2, turnZ3 (b1 := b1) (b2 := b2) (b3 := b3) D (Nat.ne_of_lt lt1) (Nat.ne_of_lt (Nat.lt_of_lt_of_le lt2 (Nat.le_add_right _ _))) (Nat.ne_of_lt (Nat.lt_of_lt_of_le lt3 (Nat.le_add_right _ _))), ⟨hz, hTI, ⟨_, _, _, hTO⟩, .new b1 h1, .new b2 h2, .new b3 h3⟩, fresh, q⟩
def zipI3 (u1 u2 u3 : U) (n1 n2 n3 : Nat) : ItF := ⟨(List.range (min n1 (min n2 n3))).map fun i T => (sqAt u1 n1 T).bind fun xs1 => (xs1[i]?).bind fun x1 => (sqAt u2 n2 T).bind fun xs2 => (xs2[i]?).bind fun x2 => (sqAt u3 n3 T).bind fun xs3 => (xs3[i]?).bind fun x3 => some (.tup [x1, x2, x3]), fun T => (sqAt u1 n1 T).isSome && (sqAt u2 n2 T).isSome && (sqAt u3 n3 T).isSome⟩
theorem itOk_zipI3 {K : PySem.W.Frag} {ρ : List Addr} {H : Hp} {u1 u2 u3 : U} {l1 l2 l3 : Addr} {n1 n2 n3 : Nat} (r1 : RV K ρ H u1 (.ref l1)) (r2 : RV K ρ H u2 (.ref l2)) (r3 : RV K ρ H u3 (.ref l3)) : ItOk K ρ H (zipI3 u1 u2 u3 n1 n2 n3) (Itz3 K (sqK u1) (sqK u2) (sqK u3) l1 l2 l3) where
  go := fun i f ρ' H' T' u ef g s h => by
    have ef : ((List.range (min n1 (min n2 n3))).map fun (i : Nat) (T : Sto) => (sqAt u1 n1 T).bind fun xs1 => (xs1[i]?).bind fun x1 => (sqAt u2 n2 T).bind fun xs2 => (xs2[i]?).bind fun x2 => (sqAt u3 n3 T).bind fun xs3 => (xs3[i]?).bind fun x3 => some (U.tup [x1, x2, x3]))[i]? = some f := ef
    rw [List.getElem?_map] at ef
    obtain ⟨j, q, rfl⟩ := Option.map_eq_some_iff.mp ef
    obtain rfl := range_at q
    obtain ⟨us1, h1a, hh1⟩ := Option.bind_eq_some_iff.mp h
    obtain ⟨y1, h1b, gg1⟩ := Option.bind_eq_some_iff.mp hh1
    obtain ⟨us2, h2a, hh2⟩ := Option.bind_eq_some_iff.mp gg1
    obtain ⟨y2, h2b, gg2⟩ := Option.bind_eq_some_iff.mp hh2
    obtain ⟨us3, h3a, hh3⟩ := Option.bind_eq_some_iff.mp gg2
    obtain ⟨y3, h3b, gg3⟩ := Option.bind_eq_some_iff.mp hh3
    obtain ⟨a1, vs1, ea1, sq1, rs1, _⟩ := sqAt_ok s (r1.gr g) h1a
    cases ea1
    obtain ⟨v1, c1, d1⟩ := rs1.get h1b
    obtain ⟨a2, vs2, ea2, sq2, rs2, _⟩ := sqAt_ok s (r2.gr g) h2a
    cases ea2
    obtain ⟨v2, c2, d2⟩ := rs2.get h2b
    obtain ⟨a3, vs3, ea3, sq3, rs3, _⟩ := sqAt_ok s (r3.gr g) h3a
    cases ea3
    obtain ⟨v3, c3, d3⟩ := rs3.get h3b
    exact ⟨vs1, vs2, vs3, v1, v2, v3, sq1, sq2, sq3, c1, c2, c3⟩
  yl := fun i f ρ' H' T' u x H'' ef g s h y => by
    have ef : ((List.range (min n1 (min n2 n3))).map fun (i : Nat) (T : Sto) => (sqAt u1 n1 T).bind fun xs1 => (xs1[i]?).bind fun x1 => (sqAt u2 n2 T).bind fun xs2 => (xs2[i]?).bind fun x2 => (sqAt u3 n3 T).bind fun xs3 => (xs3[i]?).bind fun x3 => some (U.tup [x1, x2, x3]))[i]? = some f := ef
    rw [List.getElem?_map] at ef
    obtain ⟨j, q, rfl⟩ := Option.map_eq_some_iff.mp ef
    obtain rfl := range_at q
    obtain ⟨us1, h1a, hh1⟩ := Option.bind_eq_some_iff.mp h
    obtain ⟨y1, h1b, gg1⟩ := Option.bind_eq_some_iff.mp hh1
    obtain ⟨us2, h2a, hh2⟩ := Option.bind_eq_some_iff.mp gg1
    obtain ⟨y2, h2b, gg2⟩ := Option.bind_eq_some_iff.mp hh2
    obtain ⟨us3, h3a, hh3⟩ := Option.bind_eq_some_iff.mp gg2
    obtain ⟨y3, h3b, gg3⟩ := Option.bind_eq_some_iff.mp hh3
    obtain ⟨a1, vs1, ea1, sq1, rs1, _⟩ := sqAt_ok s (r1.gr g) h1a
    cases ea1
    obtain ⟨v1, c1, d1⟩ := rs1.get h1b
    obtain ⟨a2, vs2, ea2, sq2, rs2, _⟩ := sqAt_ok s (r2.gr g) h2a
    cases ea2
    obtain ⟨v2, c2, d2⟩ := rs2.get h2b
    obtain ⟨a3, vs3, ea3, sq3, rs3, _⟩ := sqAt_ok s (r3.gr g) h3a
    cases ea3
    obtain ⟨v3, c3, d3⟩ := rs3.get h3b
    cases gg3
    obtain ⟨D, z1, z2, z3, rfl, nD, rfl, m1, m2, m3⟩ := y
    have w1 := m1 vs1 sq1
    rw [c1] at w1
    cases w1
    have w2 := m2 vs2 sq2
    rw [c2] at w2
    cases w2
    have w3 := m3 vs3 sq3
    rw [c3] at w3
    cases w3
    have g2 : Gr K ρ' H' ρ' (upd H' D (.tup [v1, v2, v3])) := Gr.fill nD
    exact ⟨g2, s.fill nD, .tup (SqT.of upd_same) (RVs.gr (vs := [v1, v2, v3]) (.cons d1 (.cons d2 (.cons d3 .nil))) g2)⟩
  st := fun ρ' H' T' g s h => by
    have h : ((sqAt u1 n1 T').isSome && (sqAt u2 n2 T').isSome && (sqAt u3 n3 T').isSome) = true := h
    simp only [Bool.and_eq_true] at h
    obtain ⟨⟨h1, h2⟩, h3⟩ := h
    obtain ⟨us1, h1a⟩ := Option.isSome_iff_exists.mp h1
    obtain ⟨a1, vs1, ea1, sq1, rs1, t1⟩ := sqAt_ok s (r1.gr g) h1a
    cases ea1
    have o1 := rs1.length
    obtain ⟨us2, h2a⟩ := Option.isSome_iff_exists.mp h2
    obtain ⟨a2, vs2, ea2, sq2, rs2, t2⟩ := sqAt_ok s (r2.gr g) h2a
    cases ea2
    have o2 := rs2.length
    obtain ⟨us3, h3a⟩ := Option.isSome_iff_exists.mp h3
    obtain ⟨a3, vs3, ea3, sq3, rs3, t3⟩ := sqAt_ok s (r3.gr g) h3a
    cases ea3
    have o3 := rs3.length
    have el : (zipI3 u1 u2 u3 n1 n2 n3).its.length = min n1 (min n2 n3) := by show (List.map _ (List.range _)).length = _; rw [List.length_map, List.length_range]
    exact ⟨vs1, vs2, vs3, sq1, sq2, sq3, by omega, by omega, by omega, by omega⟩
def gZip2 : List U → M ItF := fun us T => match us with
  | [u1, u2] => match sqN u1 T, sqN u2 T with
    | some n1, some n2 => .ok (zipI2 u1 u2 n1 n2) T
    | _, _ => .no
  | _ => .no
def fZip2 (Fr : FxA) : FxI := fun η T => (Fr η T).bind fun us T1 => gZip2 us T1
theorem fi_zip2 {X : Cx} {E : XK} {e e2 : Expr} {Fr : FxA} {p pos tpos : Pos} {elts : List Expr} {kk : Nat} (hg : Gl X "zip") (hm : X.mg "zip" = none) (ha : FA X E [e, e2] Fr) (hs : starEach [e, e2] X.env = (false, eval e X.env) :: starEach [e2] X.env := by rfl) (hpl : (backTo pos (starEach [e2] X.env)).any (·.1) = false := by rfl) :
    FI X E (.Tuple elts kk tpos) (.Call (.Name "zip" p) [e, e2] [] pos) (fZip2 Fr) := by
  obtain ⟨t, k, q⟩ := ha
  refine ⟨_, pi_z2 hg hm k hs hpl, fun σ H ρ T η R s r h => ?_⟩
  refine q σ H ρ T η _ s r (OK.mono (OK.bind h) fun vs H1 ⟨ρ1, T1, us, g1, s1, r1, k1⟩ => ?_)
  unfold gZip2 at k1
  split at k1
  · split at k1
    · rename_i m1 m2 f1 f2
      obtain ⟨xs1, e1⟩ := sqN_ok f1
      obtain ⟨xs2, e2⟩ := sqN_ok f2
      match r1 with
      | .cons r1 (.cons r2 .nil) =>
        obtain ⟨a1, v1, rfl, q1, _⟩ := sqAt_ok s1 r1 e1
        obtain ⟨a2, v2, rfl, q2, _⟩ := sqAt_ok s1 r2 e2
        exact ⟨_, _, a1, a2, v1, v2, rfl, q1, q2, k1 _ _ _ Gr.refl s1 (itOk_zipI2 r1 r2)⟩
    · exact False.elim k1
  · exact False.elim k1
def gZip3 : List U → M ItF := fun us T => match us with
  | [u1, u2, u3] => match sqN u1 T, sqN u2 T, sqN u3 T with
    | some n1, some n2, some n3 => .ok (zipI3 u1 u2 u3 n1 n2 n3) T
    | _, _, _ => .no
  | _ => .no
def fZip3 (Fr : FxA) : FxI := fun η T => (Fr η T).bind fun us T1 => gZip3 us T1
theorem fi_zip3 {X : Cx} {E : XK} {e e2 e3 : Expr} {Fr : FxA} {p pos tpos : Pos} {elts : List Expr} {kk : Nat} (hg : Gl X "zip") (hm : X.mg "zip" = none) (ha : FA X E [e, e2, e3] Fr) (hs : starEach [e, e2, e3] X.env = (false, eval e X.env) :: starEach [e2, e3] X.env := by rfl) (hpl : (backTo pos (starEach [e2, e3] X.env)).any (·.1) = false := by rfl) :
    FI X E (.Tuple elts kk tpos) (.Call (.Name "zip" p) [e, e2, e3] [] pos) (fZip3 Fr) := by
  obtain ⟨t, k, q⟩ := ha
  refine ⟨_, pi_z3 hg hm k hs hpl, fun σ H ρ T η R s r h => ?_⟩
  refine q σ H ρ T η _ s r (OK.mono (OK.bind h) fun vs H1 ⟨ρ1, T1, us, g1, s1, r1, k1⟩ => ?_)
  unfold gZip3 at k1
  split at k1
  · split at k1
    · rename_i m1 m2 m3 f1 f2 f3
      obtain ⟨xs1, e1⟩ := sqN_ok f1
      obtain ⟨xs2, e2⟩ := sqN_ok f2
      obtain ⟨xs3, e3⟩ := sqN_ok f3
      match r1 with
      | .cons r1 (.cons r2 (.cons r3 .nil)) =>
        obtain ⟨a1, v1, rfl, q1, _⟩ := sqAt_ok s1 r1 e1
        obtain ⟨a2, v2, rfl, q2, _⟩ := sqAt_ok s1 r2 e2
        obtain ⟨a3, v3, rfl, q3, _⟩ := sqAt_ok s1 r3 e3
        exact ⟨_, _, _, a1, a2, a3, v1, v2, v3, rfl, q1, q2, q3, k1 _ _ _ Gr.refl s1 (itOk_zipI3 r1 r2 r3)⟩
    · exact False.elim k1
  · exact False.elim k1
end Lf


set_option Elab.async false
set_option linter.all false
set_option maxRecDepth 100000
set_option maxHeartbeats 4000000
/-! ## zip of tuples, stepped through -/
namespace Lf
open PySem PySem.Spec L2
def z2 : List U → List U → List U
  | x :: xs, y :: ys => .tup [x, y] :: z2 xs ys
  | _, _ => []
def z3 : List U → List U → List U → List U
  | x :: xs, y :: ys, z :: zs => .tup [x, y, z] :: z3 xs ys zs
  | _, _, _ => []
theorem z2_len : ∀ (xs ys : List U), (z2 xs ys).length = min xs.length ys.length
  | [], _ => by simp [z2]
  | _ :: _, [] => by simp [z2]
  | x :: xs, y :: ys => by
    show (z2 xs ys).length + 1 = _
    rw [z2_len xs ys, List.length_cons, List.length_cons]; omega
theorem z3_len : ∀ (xs ys zs : List U), (z3 xs ys zs).length = min xs.length (min ys.length zs.length)
  | [], _, _ => by simp [z3]
  | _ :: _, [], _ => by simp [z3]
  | _ :: _, _ :: _, [] => by simp [z3]
  | x :: xs, y :: ys, z :: zs => by
    show (z3 xs ys zs).length + 1 = _
    rw [z3_len xs ys zs, List.length_cons, List.length_cons, List.length_cons]; omega
theorem z2_get : ∀ (xs ys : List U) (i : Nat) (x y : U), xs[i]? = some x → ys[i]? = some y → (z2 xs ys)[i]? = some (.tup [x, y])
  | x :: xs, y :: ys, 0, _, _, h1, h2 => by cases h1; cases h2; rfl
  | x :: xs, y :: ys, i + 1, a, b, h1, h2 => by
    show (z2 xs ys)[i]? = _
    exact z2_get xs ys i a b (by simpa using h1) (by simpa using h2)
  | [], _, i, _, _, h1, _ => by simp at h1
  | _ :: _, [], i, _, _, _, h2 => by simp at h2
theorem z3_get : ∀ (xs ys zs : List U) (i : Nat) (x y z : U), xs[i]? = some x → ys[i]? = some y → zs[i]? = some z → (z3 xs ys zs)[i]? = some (.tup [x, y, z])
  | x :: xs, y :: ys, z :: zs, 0, _, _, _, h1, h2, h3 => by cases h1; cases h2; cases h3; rfl
  | x :: xs, y :: ys, z :: zs, i + 1, a, b, c, h1, h2, h3 => by
    show (z3 xs ys zs)[i]? = _
    exact z3_get xs ys zs i a b c (by simpa using h1) (by simpa using h2) (by simpa using h3)
  | [], _, _, i, _, _, _, h1, _, _ => by simp at h1
  | _ :: _, [], _, i, _, _, _, _, h2, _ => by simp at h2
  | _ :: _, _ :: _, [], i, _, _, _, _, _, h3 => by simp at h3
theorem sqAt_tup (xs : List U) (T : Sto) : sqAt (.tup xs) xs.length T = some xs := by unfold sqAt; simp only [if_true]
theorem its_ext {n : Nat} {F : Nat → Sto → Option U} {l : List U} (hl : l.length = n) (h : ∀ i x, l[i]? = some x → ∀ T, F i T = some x) : (List.range n).map F = l.map fun x _ => some x := by
  apply List.ext_getElem?
  intro i
  rw [List.getElem?_map, List.getElem?_map]
  by_cases hi : i < n
  · rw [List.getElem?_range hi, List.getElem?_eq_getElem (by omega : i < l.length)]
    show some (F i) = some (fun _ => some l[i])
    congr 1
    funext T
    exact h i _ (List.getElem?_eq_getElem (by omega)) T
  · rw [List.getElem?_eq_none (by simp; omega), List.getElem?_eq_none (by omega)]; rfl
theorem zipI2_T (xs ys : List U) : zipI2 (.tup xs) (.tup ys) xs.length ys.length = constI (z2 xs ys) := by
  have hf : (fun T : Sto => (sqAt (.tup xs) xs.length T).isSome && (sqAt (.tup ys) ys.length T).isSome) = fun _ => true := by
    funext T; rw [sqAt_tup, sqAt_tup]; rfl
  unfold zipI2 constI
  rw [hf, its_ext (l := z2 xs ys) (z2_len xs ys) fun i x hx T => ?_]
  have hi := (List.getElem?_eq_some_iff.mp hx).1
  rw [z2_len] at hi
  have h1 : xs[i]? = some xs[i] := List.getElem?_eq_getElem (by omega)
  have h2 : ys[i]? = some ys[i] := List.getElem?_eq_getElem (by omega)
  rw [z2_get xs ys i _ _ h1 h2] at hx
  simp only [sqAt_tup, Option.bind_some, h1, h2]
  exact hx
theorem zipI3_T (xs ys zs : List U) : zipI3 (.tup xs) (.tup ys) (.tup zs) xs.length ys.length zs.length = constI (z3 xs ys zs) := by
  have hf : (fun T : Sto => (sqAt (.tup xs) xs.length T).isSome && (sqAt (.tup ys) ys.length T).isSome && (sqAt (.tup zs) zs.length T).isSome) = fun _ => true := by
    funext T; rw [sqAt_tup, sqAt_tup, sqAt_tup]; rfl
  unfold zipI3 constI
  rw [hf, its_ext (l := z3 xs ys zs) (z3_len xs ys zs) fun i x hx T => ?_]
  have hi := (List.getElem?_eq_some_iff.mp hx).1
  rw [z3_len] at hi
  have h1 : xs[i]? = some xs[i] := List.getElem?_eq_getElem (by omega)
  have h2 : ys[i]? = some ys[i] := List.getElem?_eq_getElem (by omega)
  have h3 : zs[i]? = some zs[i] := List.getElem?_eq_getElem (by omega)
  rw [z3_get xs ys zs i _ _ _ h1 h2 h3] at hx
  simp only [sqAt_tup, Option.bind_some, h1, h2, h3]
  exact hx
theorem v_zip2T {Fr : FxA} {η : Lo} {T : Sto} {Q : ItF → Sto → Prop} (h : Wp (Fr η T) fun us T1 => ∃ xs ys, us = [.tup xs, .tup ys] ∧ Q (constI (z2 xs ys)) T1) : Wp (fZip2 Fr η T) Q := by
  unfold fZip2
  refine Wp.bind (h.mono fun us T1 ⟨xs, ys, e, q⟩ => ?_)
  subst e
  show Wp (.ok (zipI2 (.tup xs) (.tup ys) xs.length ys.length) T1) Q
  rw [zipI2_T]
  exact .ok q
theorem v_zip3T {Fr : FxA} {η : Lo} {T : Sto} {Q : ItF → Sto → Prop} (h : Wp (Fr η T) fun us T1 => ∃ xs ys zs, us = [.tup xs, .tup ys, .tup zs] ∧ Q (constI (z3 xs ys zs)) T1) : Wp (fZip3 Fr η T) Q := by
  unfold fZip3
  refine Wp.bind (h.mono fun us T1 ⟨xs, ys, zs, e, q⟩ => ?_)
  subst e
  show Wp (.ok (zipI3 (.tup xs) (.tup ys) (.tup zs) xs.length ys.length zs.length) T1) Q
  rw [zipI3_T]
  exact .ok q
end Lf


set_option Elab.async false
set_option linter.all false
set_option maxRecDepth 100000
set_option maxHeartbeats 4000000
/-! ## exceptions of own classes: facts, made, raised -/
namespace Lf
open PySem PySem.Spec L2
open PyProof.Rows (envOfC)

/-! ### facts -/
def oexB (K : PySem.W.Frag) (C : Addr) : Bool := match K.lookup C with
  | some ⟨.type t, _, .cls cd, sl⟩ => (match cd.mro, sl.toList with
    | .ref D :: bm, [_, _, _, _, some (.builtin n), _] => t == "type" && (D == C && (n == "ValueError.__new__" && (!cd.hasDel && (cd.hasDict && PySem.HandSPX.refsVE bm))))
    | _, _ => false)
  | _ => false
theorem oexB_ok {K : PySem.W.Frag} {C : Addr} (h : oexB K C = true) : ∃ nm q N bs bm sn sub ab col dd k0 k1 k2 k3 k5, K.lookup C = some (excClassObj nm q C N bs bm true sn sub ab col dd k0 k1 k2 k3 k5 "ValueError.__new__") ∧ PySem.HandSPX.refsVE bm = true := by
  unfold oexB at h
  split at h
  · rename_i t dd cd sl ho
    split at h
    · rename_i D bm k0 k1 k2 k3 n k5 hm hs
      simp only [Bool.and_eq_true, beq_iff_eq, Bool.not_eq_true'] at h
      obtain ⟨rfl, rfl, rfl, hdel, hdi, hv⟩ := h
      obtain ⟨nm, bs, mro, ns, qn, hd, sn, sub, ab, col, del⟩ := cd
      dsimp only at hm hdel hdi
      subst hm hdel hdi
      have hsl : sl = #[k0, k1, k2, k3, some (.builtin "ValueError.__new__"), k5] := by
        obtain ⟨l⟩ := sl
        simp only at hs
        rw [hs]
      subst hsl
      exact ⟨nm, qn, ns, bs, bm, sn, sub, ab, col, dd, k0, k1, k2, k3, k5, ho, hv⟩
    · cases h
  · cases h
abbrev oS (a b : Option (Option Value)) : Bool := decide (a = b)
/-- an own exception class with an own __init__ of one more parameter, kept in the field f -/
structure ExFc (K : PySem.W.Frag) (x f : Str) : Prop where
  T : OexC K (He.ga K x)
  iC : PySem.W.findIn K (.ref (He.ga K x)) "__init__" = some (some (.ref (He.ma K (He.ga K x) "__init__")))
  tI : PySem.W.typeIn K (.ref (He.ma K (He.ga K x) "__init__")) = some (.type "function")
  no : PySem.W.findIn K (.ref (He.ga K x)) f = some none
  xf : XfC K (He.ga K x)
  ec : ExcC K (He.ga K x)
def exB1 (K : PySem.W.Frag) (C : Addr) : Bool := oexB K C && (oS (PySem.W.findIn K (.ref C) "__setattr__") (some (some (.builtin "object.__setattr__"))) && (decide (PySem.W.subIn K (.ref C) (.type "BaseException") = some true) && (decide (PySem.W.typeIn K (.ref C) = some (.type "type")) && PySem.W.keepIn K (.ref C))))
def exB2 (K : PySem.W.Frag) (C : Addr) : Bool := xfB K C && (oS (PySem.W.findIn K (.ref C) "__class__") (some (some (.builtin "object.__class__"))) && (oS (PySem.W.specialIn K (.builtin "object.__class__") "__get__") (some (some (.builtin "getset_descriptor.__get__"))) &&
  (decide (PySem.W.takesIn K (.builtin "object.__class__") = some true) && decide (PySem.W.mroIn K C (.type "object") = some true))))
def exB (K : PySem.W.Frag) (x f : Str) : Bool := exB1 K (He.ga K x) && (exB2 K (He.ga K x) && (oS (PySem.W.findIn K (.ref (He.ga K x)) "__init__") (some (some (.ref (He.ma K (He.ga K x) "__init__")))) &&
  (decide (PySem.W.typeIn K (.ref (He.ma K (He.ga K x) "__init__")) = some (.type "function")) && oS (PySem.W.findIn K (.ref (He.ga K x)) f) (some none))))
theorem exB_ok {K : PySem.W.Frag} {x f : Str} (h : exB K x f = true) : ExFc K x f := by
  obtain ⟨h1, h⟩ := Bool.and_eq_true_iff.mp h
  obtain ⟨h2, h⟩ := Bool.and_eq_true_iff.mp h
  obtain ⟨h3, h⟩ := Bool.and_eq_true_iff.mp h
  obtain ⟨h4, h5⟩ := Bool.and_eq_true_iff.mp h
  obtain ⟨a1, h1⟩ := Bool.and_eq_true_iff.mp h1
  obtain ⟨a2, h1⟩ := Bool.and_eq_true_iff.mp h1
  obtain ⟨a3, h1⟩ := Bool.and_eq_true_iff.mp h1
  obtain ⟨a4, a5⟩ := Bool.and_eq_true_iff.mp h1
  obtain ⟨b1, h2⟩ := Bool.and_eq_true_iff.mp h2
  obtain ⟨b2, h2⟩ := Bool.and_eq_true_iff.mp h2
  obtain ⟨b3, h2⟩ := Bool.and_eq_true_iff.mp h2
  obtain ⟨b4, b5⟩ := Bool.and_eq_true_iff.mp h2
  have x1 := xfB_ok b1
  exact ⟨⟨oexB_ok a1, of_decide_eq_true a2, of_decide_eq_true a3, of_decide_eq_true a4, a5⟩, of_decide_eq_true h3, of_decide_eq_true h4, of_decide_eq_true h5, x1, ⟨x1.ga, x1.gg, x1.exC, x1.hdC, of_decide_eq_true b2, of_decide_eq_true b3, of_decide_eq_true b4, of_decide_eq_true b5⟩⟩
/-- the base class: its __init__ is ValueError's -/
structure JoFc (K : PySem.W.Frag) (J : Str) : Prop where
  rd : PySem.W.readsIn K (He.ga K J) (.type "type") = true
  ga : PySem.W.specialIn K (.ref (He.ga K J)) "__getattribute__" = some (some (.builtin "type.__getattribute__"))
  fi : PySem.W.findCls K (.ref (He.ga K J)) (.type "type") "__init__" = some (.val (.builtin "ValueError.__init__"))
def isVal (a : Option PySem.W.CFound) (id : String) : Bool := match a with
  | some (.val (.builtin i)) => decide (i = id)
  | _ => false
theorem isVal_ok {a : Option PySem.W.CFound} {id : String} (h : isVal a id = true) : a = some (.val (.builtin id)) := by
  unfold isVal at h
  split at h
  · rw [of_decide_eq_true h]
  · cases h
def joB (K : PySem.W.Frag) (J : Str) : Bool := PySem.W.readsIn K (He.ga K J) (.type "type") && (oS (PySem.W.specialIn K (.ref (He.ga K J)) "__getattribute__") (some (some (.builtin "type.__getattribute__"))) && isVal (PySem.W.findCls K (.ref (He.ga K J)) (.type "type") "__init__") "ValueError.__init__")
theorem joB_ok {K : PySem.W.Frag} {J : Str} (h : joB K J = true) : JoFc K J := by
  obtain ⟨h1, h⟩ := Bool.and_eq_true_iff.mp h
  obtain ⟨h2, h3⟩ := Bool.and_eq_true_iff.mp h
  exact ⟨h1, of_decide_eq_true h2, isVal_ok h3⟩
/-! ### J.__init__(self, text) -/
section
variable {X : Cx} {ta : TA} {J : Str} {e : Expr} {es : List Expr} {p1 p2 pos : Pos}
theorem pe_joinit {pl : Sem Bool} (hg : Gl X J) (hm : X.mg J = some (.ref (He.ga X.K J))) (F : JoFc X.K J) (ha : PA X (e :: es) ta)
    (hc : eval (.Call (.Attribute (.Name J p1) "__init__" p2) (e :: es) [] pos) X.env = (do
      let ov ← eval (.Name J p1) X.env
      standAt p2.atName
      let (f, first) ← holding [ov] (getMethod ov "__init__" pl)
      callWith pos f first (backTo pos (starEach (e :: es) X.env)) (backToKw pos (keywordEach [] X.env))) := by rfl)
    (hdb : (J == ("__debug__" : Str)) = false := by decide) (he : starEach (e :: es) X.env = (false, eval e X.env) :: starEach es X.env := by rfl) (hpl : (backTo pos (starEach es X.env)).any (·.1) = false := by rfl) :
    PE X (.Call (.Attribute (.Name J p1) "__init__" p2) (e :: es) [] pos) (tVeI X.K ta) := by
  refine ⟨fun pins s σ H Q I h => ?_⟩
  refine PySem.W.methodCall_KW (ld_glob I hg hm ?_ hdb) hc
  refine PySem.W.method_cls I.kIn F.ga (PySem.W.cls_value I.kIn F.rd F.fi rfl ?_)
  show wpAny _ _ (callWith pos (Value.builtin "ValueError.__init__") [] (backTo pos (starEach (e :: es) X.env)) []) _ _ _
  refine PyProof.Rows.callWith_method1 (thn (ha.run pos pins _ σ H _ (I.tok _) h) fun us s1 ⟨vs, H1, I1, r1, a, C, ws, ev, hl, T, ea, q⟩ => ?_) he hpl
  subst ev
  cases r1 with
  | @cons _ u0 _ ur ra rw' =>
    obtain rfl : u0 = Value.ref a := ra
    have hlen : ur.length ≤ sizeLine := by
      rw [← Paired.length rw', sizeLine_eq]
      omega
    exact oinit_ok T I1 ea hlen fun s' J => ⟨.non, H1, J, rfl, q⟩
end
/-- what such an __init__ does -/
def spI (K : PySem.W.Frag) (f : Str) : Sp := fun vs H Q _ => ∃ (a C : Addr) (v : V), vs = [.ref a, v] ∧ OexC K C ∧ PySem.W.findIn K (.ref C) f = some none ∧ H a = some (exo a C none) ∧
  ∀ dx, H dx = none → dx ≠ a → Q .non (upd (upd H dx (exd dx [(f, v)])) a (exo a C (some dx)))
section
variable {P : Program} {w : World} {K : PySem.W.Frag} {mg : Str → Option Value} {base : Heap}
theorem init_ok {J y f txt : Str} {fI : Addr} {fd : FuncData} {qual : Str} {params : Arguments} {scope : Scope} {body : List Stmt} {p1 p2 p3 p4 p5 p6 p7 p8 p9 p10 : Pos} {j : Nat} (hm : mg J = some (.ref (He.ga K J))) (F : JoFc K J)
    (hbody : body = [.Expr (.Call (.Attribute (.Name J p1) "__init__" p2) [.Name "self" p3, .Constant (.str txt) j p4] [] p5) p6, .Assign [.Attribute (.Name "self" p7) f p8] (.Name y p9) p10])
    (D : FunD K "__init__" qual params body scope [] [] fI fd) (S : FnScope ["self", y] ["self", y] scope) (hJ : ∀ (cdv : Value) (A : Around) (outer : List Env) (s : Shared) (H : Hp) (E : XK), Gl (cxOf CX0 P w K mg base ["self", y] qual scope fI cdv A outer s H E) J)
    (hc : ∀ env : Env, ∃ pl : Sem Bool, eval (.Call (.Attribute (.Name J p1) "__init__" p2) [.Name "self" p3, .Constant (.str txt) j p4] [] p5) env = (do
      let ov ← eval (.Name J p1) env
      standAt p2.atName
      let (f, first) ← holding [ov] (getMethod ov "__init__" pl)
      callWith p5 f first (backTo p5 (starEach [.Name "self" p3, .Constant (.str txt) j p4] env)) (backToKw p5 (keywordEach [] env))))
    (hsw : ∀ env : Env, swapsWith (.Name y p9) (some (.Attribute (.Name "self" p7) f p8)) p10.line env = pure false)
    (hs : scope.names.lookup ("self" : Str) = some NameKind.local) (hy : scope.names.lookup y = some NameKind.local) (hdb : (J == ("__debug__" : Str)) = false) (hyd : (y == ("__debug__" : Str)) = false) (hyc : (y == ("__classdict__" : Str)) = false) : FnOk P w K mg base CX0 1 fI fd ["self", y] (spI K f) := by
  subst hbody
  refine FunD.ok (CX := CX0) D S (fun vs H Q E h => ?_) fun cdv A outer s H vs Q E hr h => ?_
  · obtain ⟨a, C, v, rfl, _⟩ := h
    rfl
  · obtain ⟨a, C, v, rfl, T, no, ea, q⟩ := h
    obtain ⟨pl, hpl⟩ := hc (envOfC qual scope s.heap.objs.size fI cdv)
    refine ⟨_, pss_cons (ps_expr (pe_joinit (pl := pl) (hJ cdv A outer s H E) hm F (pa_cons (pe_var (i := 0) rfl (.inl hs) (by decide) (by decide)) (pa_cons pe_str pa_nil)) hpl hdb)) (pss_one (ps_ost (pe_var (i := 0) rfl (.inl hs) (by decide) (by decide)) (pe_var (i := 1) rfl (.inl hy) hyd hyc) (hsw _))), ?_⟩
    exact ⟨_, rfl, a, C, [.str txt], rfl, (by show 1 ≤ 1000; omega), T, ea, v, rfl, _, rfl, a, C, rfl, T, no, .inl ⟨ea, fun dx hd ne => q dx hd ne⟩⟩
end
end Lf


set_option Elab.async false
set_option linter.all false
set_option maxRecDepth 100000
set_option maxHeartbeats 4000000
/-! ## raise; defs that raise; try: .. except J as e: y = e -/
namespace Lf
open PySem PySem.Spec L2
open PyProof.Rows (envOfC)

/-! ### raise -/
def fRaise (x f : Str) (Fe : FxE) : FxS := fun η T => (Fe η T).bind fun u T1 => .ex ⟨x, [(f, u)]⟩ T1
theorem ps_nox {X : Cx} {st : Stmt} {t : TS} (h : PS X.nox st t) : PS X st t :=
  ⟨fun pins s σ H D I hw => wpAny_mono (h.run pins s σ H D (I.wish _) hw) (fun _ _ q => SP.unwish q) (fun _ _ z => False.elim z)⟩
theorem FS.nox {X : Cx} {E : XK} {st : Stmt} {F : FxS} (h : FS X.nox E st F) : FS X E st F := let ⟨t, k, q⟩ := h; ⟨t, ps_nox k, q⟩
theorem FT.nox {X : Cx} {E : XK} {e : Expr} {F : FxT} (h : FT X.nox E e F) : FT X E e F := let ⟨t, k, q⟩ := h; ⟨t, k.nox, q⟩
theorem FE.nox {X : Cx} {E : XK} {e : Expr} {F : FxE} (h : FE X.nox E e F) : FE X E e F := let ⟨t, k, q⟩ := h; ⟨t, k.nox, q⟩
theorem fs_raise {X : Cx} {E : XK} {x f y : Str} {e : Expr} {Fe : FxE} {fd : FuncData} {p pos pos' : Pos} (hc : X.calm = true) (tk : Takes X (fun cls d _ H => E cls d H)) (C : ExFc X.K x f) (hm : X.mg x = some (.ref (He.ga X.K x)))
    (F1 : FnOk X.prog X.w X.K X.mg X.base CX0 1 (He.ma X.K (He.ga X.K x) "__init__") fd ["self", y] (spI X.K f)) (hr : Room 2 X.A) (hb : Binds X.K fd ["self", y] []) (hg : Gl X x) (he : FE X E e Fe)
    (hdb : (x == ("__debug__" : Str)) = false := by decide) (hs : starEach [e] X.env = (false, eval e X.env) :: starEach [] X.env := by rfl) (hpl : (backTo pos (starEach [] X.env)).any (·.1) = false := by rfl) :
    FS X E (.Raise (some (.Call (.Name x p) [e] [] pos)) none pos') (fRaise x f Fe) := by
  obtain ⟨t, k, q⟩ := he
  refine ⟨_, ps_raise hc tk (pmk_oex (CX := CX0) C.T C.iC C.tI F1 hr hb .nil (fun _ _ _ _ _ _ _ h => h.elim) hg hm (pa_cons k pa_nil hs) hdb hs hpl), fun σ H ρ T η D s r h => ?_⟩
  refine q σ H ρ T η _ s r (OK.mono (OKS.bind h) fun x1 H1 ⟨ρ1, T1, u, g1, s1, r1, k1⟩ => ⟨by show 1 ≤ 1000; omega, fun a ha => ?_⟩)
  refine ⟨a, _, x1, rfl, C.T, C.no, upd_same, fun dx hd ne => ⟨rfl, dx, [(f, x1)], upd_same, by rw [upd_ne ne, upd_same], by rw [upd_ne ne] at hd; exact hd, ?_⟩⟩
  have hn : H1 dx = none := by rw [upd_ne ne] at hd; exact hd
  have eq : upd (del (upd (upd (upd H1 a (exo a (He.ga X.K x) none)) dx (exd dx [(f, x1)])) a (exo a (He.ga X.K x) (some dx))) a) dx (HO.xd [(f, x1)]) = upd H1 dx (HO.xd [(f, x1)]) := by
    funext b
    by_cases h1 : b = dx
    · rw [h1, upd_same, upd_same]
    · rw [upd_ne h1, upd_ne h1]
      by_cases h2 : b = a
      · rw [h2, del_same, ha]
      · rw [del_ne h2, upd_ne h2, upd_ne h1, upd_ne h2]
  show E _ _ (upd (del _ a) dx (HO.xd [(f, x1)]))
  rw [eq]
  exact k1 ρ1 _ dx [(f, x1)] (Gr.fill hn) (s1.fill hn) upd_same (.cons ⟨rfl, r1.gr (Gr.fill hn)⟩ .nil)

/-! ### defs that may raise -/
def noex {α : Type} (r : R α) : R α := match r with
  | .ex _ _ => .no
  | r => r
theorem FnG.calm {P : Program} {w : World} {K : PySem.W.Frag} {mg : Str → Option Value} {base : Heap} {k : Nat} {f : Addr} {fd : FuncData} {ps : List Str} {g : List U → M U} (F : FnG P w K mg base (L2.CX P w) k f fd ps g) : FnG P w K mg base CX0 k f fd ps (fun us T => noex (g us T)) := by
  constructor
  intro A fr s H args ws vs us ρ T Q E room gd e0 bd rv rs ru lu h
  refine codeAny_mono (F.run A fr s H args ws vs us ρ T Q (fun _ _ _ => False) room gd e0 bd rv rs ru lu ?_) fun r s' q => ?_
  · unfold noex at h
    generalize g us T = z at h
    cases z with
    | no => exact h
    | ok a T1 => exact h
    | ex e T1 => exact False.elim h
  · cases r with
    | ok fl => cases fl <;> exact q
    | error e => exact q.elim fun _ q => q.elim fun _ q => q.elim fun _ q => q.elim fun _ q => q.elim fun _ q => False.elim q.2.2.2.2.2.2.2
structure DokX (P : Program) (w : World) (K : PySem.W.Frag) (mg : Str → Option Value) (base : Heap) (x : Str) (k : Nat) (ps : List Str) (kw : List (List Str × List Nat)) (g : List U → M U) : Prop where
  ex : ∃ f fd, FnG P w K mg base (L2.CX P w) k f fd ps g ∧ mg x = some (.ref f) ∧ PySem.W.keepIn K (.ref f) = true ∧ Binds K fd ps [] ∧
    ∀ q ∈ kw, ∀ (s : Shared) (ws : List Value), ws.length = q.1.length → BindsTo s fd ⟨[], q.1.zip ws⟩ (ps.zip (pick q.2 ws))
theorem DokX.calm {P : Program} {w : World} {K : PySem.W.Frag} {mg : Str → Option Value} {base : Heap} {x : Str} {k : Nat} {ps : List Str} {kw : List (List Str × List Nat)} {g : List U → M U} (D : DokX P w K mg base x k ps kw g) : Dok P w K mg base x k ps kw (fun us T => noex (g us T)) := by
  obtain ⟨f, fd, G, r⟩ := D.ex
  exact ⟨f, fd, G.calm, r⟩
theorem DokX.of {P : Program} {w : World} {K : PySem.W.Frag} {mg : Str → Option Value} {base : Heap} {x : Str} {k : Nat} {ps : List Str} {kw : List (List Str × List Nat)} {g : List U → M U} {f : Addr} {fd : FuncData} {name qual : Str} {params : Arguments} {body : List Stmt} {scope : Scope}
    (G : FnG P w K mg base (L2.CX P w) k f fd ps g) (hm : mg x = some (.ref f)) (D : FunD K name qual params body scope [] [] f fd)
    (hb : ∀ (kV doc pm : Value) (an : Option Addr) (cdv ct : Value) (us : List Value), us.length = ps.length → bindArgs (PySem.W.fnOf name qual params body scope .none kV doc pm an cdv ct) ⟨us, []⟩ = pure (ps.zip us))
    (hk : ∀ q ∈ kw, ∀ (kV doc pm : Value) (an : Option Addr) (cdv ct : Value) (ws : List Value), ws.length = q.1.length → bindArgs (PySem.W.fnOf name qual params body scope .none kV doc pm an cdv ct) ⟨[], q.1.zip ws⟩ = pure (ps.zip (pick q.2 ws))) : DokX P w K mg base x k ps kw g := by
  have D0 := Dok.of (P := P) (w := w) (mg := mg) (base := base) (x := x) (k := k) (kw := kw) FnG.zero hm D hb hk
  obtain ⟨f', fd', _, e, r1, r2, r3⟩ := D0.ex
  obtain ⟨oc, od, dV, kV, doc, pm, an, cdv, ct, osl, e1, lk, hcd, hD, hK⟩ := D.ex
  exact ⟨f, fd, G, hm, D.kp, D.bindsN hb, fun q hq s ws hl => by
    rcases hD with ⟨_, e2⟩ | ⟨e2, _⟩
    · subst e2
      rw [e1]
      exact .of_eq (hk q hq kV doc pm an cdv ct ws hl)
    · exact absurd rfl e2⟩

/-! ### arguments, whatever is wished about exceptions -/
/-- the wish about exceptions told at the slots -/
structure FAs (X : Cx) (E : L2.St → XK) (es : List Expr) (F : FxA) : Prop where
  ex : ∃ t : TA, PA X es t ∧ ∀ (σ : L2.St) (H : Hp) (ρ : List Addr) (T : Sto) (η : Lo) (Q : List V → Hp → Prop), RS X.K ρ H T → RE X.K ρ H η σ → OK X.K ρ H (E σ) (rVs X.K) (F η T) Q → t σ H Q
theorem FAs.of {X : Cx} {E : L2.St → XK} {es : List Expr} {F : FxA} (h : ∀ E : XK, FA X E es F) : FAs X E es F := by
  obtain ⟨t, ht⟩ := Classical.axiomOfChoice fun E : XK => (h E).ex
  refine ⟨fun σ H Q => t (E σ) σ H Q, ⟨fun pos pins s σ H Q I q => (ht (E σ)).1.run pos pins s σ H Q I q⟩, fun σ H ρ T η Q s r q => (ht (E σ)).2 σ H ρ T η Q s r q⟩
/-- a call of what may raise, at the slots -/
structure FEs (X : Cx) (E : L2.St → XK) (e : Expr) (F : FxE) : Prop where
  ex : ∃ t : TE, PE X e t ∧ ∀ (σ : L2.St) (H : Hp) (ρ : List Addr) (T : Sto) (η : Lo) (Q : V → Hp → Prop), RS X.K ρ H T → RE X.K ρ H η σ → OK X.K ρ H (E σ) (rV X.K) (F η T) Q → t σ H Q
section
variable {X : Cx} {j k : Nat} {ps : List Str} {kw : List (List Str × List Nat)} {g : List U → M U} {x : Str} {p pos : Pos} {e : Expr} {es : List Expr} {Fr : FxA} {E : L2.St → XK}
theorem fes_def (kd : Kd) (D : DokX X.prog X.w X.K X.mg X.base x j ps kw g) (room : Room k X.A) (hjk : Nat.ble j k = true) (gd : X.A.guards = some []) (hg : Gl X x) (hx : ∀ σ, PassesAt (L2.CX X.prog X.w) X σ (E σ)) (ha : ∀ E : XK, FA X E (e :: es) Fr) {n : Nat} (hn : ps.length = n := by rfl)
    (hdb : (x == ("__debug__" : Str)) = false := by decide) (he : starEach (e :: es) X.env = (false, eval e X.env) :: starEach es X.env := by rfl) (hpl : (backTo pos (starEach es X.env)).any (·.1) = false := by rfl) : FEs X E (.Call (.Name x p) (e :: es) [] pos) (fCall (kdG kd n g) Fr) := by
  subst hn
  obtain ⟨f, fd, G, hm, hk, hb, _⟩ := D.ex
  obtain ⟨t, kk, q⟩ := (FAs.of (E := E) ha).ex
  have room := room.mono (Nat.le_of_ble_eq_true hjk)
  refine ⟨fun σ H Q => t σ H fun vs H1 => tG X.K ps g (E σ) vs H1 Q, ⟨fun pins s σ H Q I h => wpAny_Call_Name_kw (ld_glob I hg hm ?_ hdb)⟩, fun σ H ρ T η Q s re h => ?_⟩
  · refine PySem.W.callWith_K (h₀ := X.base) I.ok.mod.kin hk (thn (kk.run pos pins s σ H _ I h) fun ws s1 ⟨vs, H1, I1, rv, ρ, T, us, rs, ru, lu, hq⟩ => ⟨I1.kIn, ?_⟩) he hpl
    have bd := hb s1 ws I1.kIn (by rw [List.append_nil, ← rv.length, ← ru.length]; exact lu)
    rw [List.append_nil] at bd
    refine wpAny_call (codeAny_mono (G.run X.A X.stack s1 H1 ⟨ws, []⟩ ws vs us ρ T Q (E σ) room gd I1.env0 bd rv rs ru lu hq) fun r s' q => ?_)
    match r, q with
    | .error e, q => exact hx σ pins H1 s1 e s' I1 q
    | .ok (.ret u), q => exact I1.after q
    | .ok .next, q => exact False.elim q
    | .ok .brk, q => exact False.elim q
    | .ok .cont, q => exact False.elim q
  · exact q σ H ρ T η _ s re (OK.mono (OK.bind h) fun xs H1 ⟨ρ1, T1, us, g1, s1, r1, k1⟩ => tG_kd kd s1 r1 k1)
end

/-! ### a caught exception is tracked -/
section
variable {X : Cx} {pins : List (Addr × Obj)} {σ : L2.St} {H : Hp} {s : Shared} {a C dd : Addr} {oe : Obj}
theorem exK_ok {P : Program} {w : World} {H : Hp} {h : Heap} (ha : h.get? a = some oe) (hz : Zc (.ref C) (some dd) oe) (hv : ∃ vs, oe.data = .fields vs) : ObjOk P w H h a (ExK a C dd) :=
  ⟨⟨oe, hv.choose, ha, hz, hv.choose_spec⟩, ⟨oe, ha⟩, fun _ _ ⟨o, v, q, r⟩ k => ⟨o, v, k o q, r⟩⟩
theorem track (ok : X.Ok) (S : L2.Inv (X.suite a ((a, oe) :: (X.pn ++ pins))) [] σ H s) (hz : Zc (.ref C) (some dd) oe) (hv : ∃ vs, oe.data = .fields vs) (n0 : X.s_0.heap.get? a = none) (np : ∀ p ∈ X.pn ++ pins, p.1 ≠ a) :
    L2.Inv X pins σ (upd H a (ExK a C dd)) s := by
  obtain ⟨ha, hn, nl, nf, _⟩ := S.pin (a, oe) (List.mem_append_left _ List.mem_cons_self)
  have nb : ∀ {b : Addr} {o : HO}, H b = some o → b ≠ a := fun {b o} e z => by rw [z, hn] at e; cases e
  have fr : ∀ {b : Addr}, H b = none → b ≠ a → upd H a (ExK a C dd) b = none := fun {b} e z => by rw [upd_ne z]; exact e
  refine ⟨ok, S.os, S.bare, ⟨S.base.keep, S.base.slot, fun b o e n hx => fr (S.base.free b o e n hx) fun z => ?_, S.base.there, fun b xs e => ?_, fun b o xs e => ?_, fun b ps e => ?_⟩, S.loc, S.cell, fr S.free (Ne.symm nl), fun y c e => fr (S.freeC y c e) fun z => ?_, fun p hp => ?_, fun b o e => ?_, S.len⟩
  · rw [z, n0] at e
    cases e
  · have := S.base.tups b xs e
    rw [upd_ne (nb this)]
    exact this
  · have := S.base.frzs b o xs e
    rw [upd_ne (nb this)]
    exact this
  · obtain ⟨more, q⟩ := S.base.tbls b ps e
    exact ⟨more, by rw [upd_ne (nb q)]; exact q⟩
  · obtain ⟨v, q⟩ := S.cell y c e
    obtain ⟨vs, hv⟩ := hv
    rw [z] at q
    obtain ⟨oc, e1, e2⟩ := q
    rw [ha] at e1
    cases e1
    rw [hv] at e2
    cases e2
  · obtain ⟨e1, e2, e3⟩ := S.pin p (by
      rw [List.append_nil]
      exact List.mem_cons_of_mem _ hp)
    exact ⟨e1, fr e2 (np p hp), e3⟩
  · by_cases hb : b = a
    · subst hb
      rw [upd_same] at e
      cases e
      exact exK_ok ha hz hv
    · rw [upd_ne hb] at e
      exact (S.hok b o e).stay (fun c w' _ q => q) (fun c hc => by rw [upd_ne (nb hc)]; exact hc) fun c xs hc => by rw [upd_ne (nb hc)]; exact hc
end
/-! ### try: f(..) except J as e: y = e -/
def wKp (K : PySem.W.Frag) (c : Value) (i j : Nat) (D : Ends) : WX := fun cls d σ H => PySem.W.exmOne K cls c = some true ∧
  ∃ C dd : Addr, cls = .ref C ∧ d = some dd ∧ ∀ a, H a = none → D.nx (((σ.set i (some (.ref a))).set j (some (.ref a))).set i none) (upd H a (ExK a C dd))
section
variable {X : Cx} {x n y : Str} {c : Value} {i j : Nat} {body : List Stmt} {np pn py pos pos' spos : Pos} {tb : WX → TS}
theorem ps_try_keep (hs : X.stack = X.env :: X.outer) (hf : X.env.frame = some X.env.locals) (hex : X.ex = []) (hN : X.N.Nodup) (hi : X.N[i]? = some n) (hj : X.N[j]? = some y) (hln : X.env.kindOf n = some .local) (hly : X.env.kindOf y = some .local) (hc : Names X x c)
    (hvn : Vis X.env.scope n) (hnd : (n == ("__debug__" : Str)) = false) (hnc : (n == ("__classdict__" : Str)) = false) (hsw : swapsWith (.Name n pn) (some (.Name y py)) spos.line X.env = pure false)
    (hb : ∀ (W : WX) (pn : List (Addr × Obj)) (xe : Value → Shared → Prop), Takes (X.tr pn xe) W → PSs (X.tr pn xe) body (tb W)) :
    PS X (.Try body [.ExceptHandler (some (.Name x np)) (some n) [.Assign [.Name y py] (.Name n pn) spos] pos'] [] [] pos) (fun D σ H => tb (wKp X.K c i j D) D σ H) := by
  refine ⟨fun pins s σ H D I h => ?_⟩
  have ok := I.ok
  have hframes : X.A.frames = some (X.env :: X.outer) := by rw [← hs]; exact ok.frames
  refine wpAny_Try_except (wpAny_mono ((hb (wKp X.K c i j D) (X.pn ++ pins) (fun e s₁ => wpAny (model X.prog X.w) X.A (noteFrame e X.env) (fun _ s₂ => wpAny (model X.prog X.w) X.A (setFlight e none) (fun _ s₃ =>
    wpAny (model X.prog X.w) X.A (handleBy e X.env [.ExceptHandler (some (.Name x np)) (some n) [.Assign [.Name y py] (.Name n pn) spos] pos']) (SP X pins D) X.xe s₃) X.xe s₂) X.xe s₁) ?tk).run [] s σ H D (I.toTry _) h) (fun f s1 hsp => ?fin) fun e s1 he => he)
  case fin =>
    cases f with
    | ret u => exact hsp.elim fun v hsp => hsp.elim fun σ' hsp => hsp.elim fun H' hsp => ⟨v, σ', H', hsp.1.ofTry ok, hsp.2⟩
    | next => exact hsp.elim fun σ' hsp => hsp.elim fun H' hsp => wpAny_execs_nil ⟨σ', H', hsp.1.ofTry ok, hsp.2⟩
    | brk => exact hsp.elim fun σ' hsp => hsp.elim fun H' hsp => ⟨σ', H', hsp.1.ofTry ok, hsp.2⟩
    | cont => exact hsp.elim fun σ' hsp => hsp.elim fun H' hsp => ⟨σ', H', hsp.1.ofTry ok, hsp.2⟩
  case tk =>
    rintro u s' ⟨a, B, sI, pins', σ', H', cls, d, rfl, J', nb, up, sky, na, os, ag, hm, C, dd, rfl, rfl, hq⟩
    have J : L2.Inv X pins σ' H' sI := J'.ofTry ok
    rw [show (X.tr (X.pn ++ pins) _).stack = X.env :: X.outer from hs] at sky
    show wpAny (model X.prog X.w) X.A (noteFrame (.ref a) X.env) _ _ _
    refine Sky.land Zc.steady hframes hf sky fun hA flA upA => ?_
    have JA : L2.Inv X pins σ' H' { s' with heap := hA } := J.landed nb flA.1 (up.trans upA) os ag
    obtain ⟨oA, vA, getA, zA, dA⟩ := flA.there
    have out : a ∉ frs (X.env :: X.outer) := fun hmem => by
      obtain ⟨_, o', e', hnf⟩ := flA.2.2.1.mem hmem
      rw [getA] at e'
      cases e'
      exact hnf _ dA
    have nL : a ≠ X.env.locals := fun z => out (List.mem_filterMap.mpr ⟨X.env, List.mem_cons_self, by rw [z]; exact hf⟩)
    have nF : a ∉ X.fs := fun hmem => by
      obtain ⟨v, hv, q⟩ := List.mem_filterMap.mp hmem
      exact out (List.mem_filterMap.mpr ⟨v, List.mem_cons_of_mem _ hv, q⟩)
    have nB : B.get? a = none := flA.2.1
    have n0 : X.s_0.heap.get? a = none := by
      cases q : X.s_0.heap.get? a with
      | none => rfl
      | some o =>
        obtain ⟨o', e'⟩ := J.base.there a o q (by rw [hex]; simp)
        have := nb a o' e' (by rw [show (X.tr (X.pn ++ pins) _).stack = X.env :: X.outer from hs]; exact out)
        rw [nB] at this
        cases this
    have nP : ∀ p ∈ X.pn ++ pins, p.1 ≠ a := fun p hp z => by
      obtain ⟨e1, e2, e3, e4, _⟩ := J.pin p hp
      have := nb p.1 p.2 e1 (by
        rw [show (X.tr (X.pn ++ pins) _).stack = X.env :: X.outer from hs]
        rw [z]
        exact out)
      rw [z, nB] at this
      cases this
    have SA := JA.suite getA dA na nL nF
    refine wpAny_handleBy_cons (codeAny_handlers_test ?_) (by intro q; cases q)
    have LT : PySem.W.Looks (model X.prog X.w) hA (typeOf (.ref a)) (.ref C) := fun A Q E s k q => wpAny_typeOf_ref (k _ _ getA) (by rw [zA.1]; exact q)
    have test : ∀ {Q : Value → Shared → Prop} {E : Value → Shared → Prop}, Q c { s' with heap := hA } → wpAny (model X.prog X.w) (X.A.mark (some (.ref a))) (eval (.Name x np) X.env) Q E { s' with heap := hA } := fun {Q E} q => by
      obtain ⟨hg, hdbg, hm | ⟨hm, hv, hnn⟩⟩ := hc
      · exact ld_glob (X := X.suite a ((a, oA) :: (X.pn ++ pins))) SA hg hm q hdbg
      · exact ld_blt (X := X.suite a ((a, oA) :: (X.pn ++ pins))) SA hg hm hv q hnn hdbg
    refine test ((PySem.W.exm_one (M := model X.prog X.w) JA.kIn LT hm).here ?_)
    refine codeAny_handlers_suite_as (HandSPX.lands_againZ flA fun hB flB upB => ?_)
    have JB : L2.Inv X pins σ' H' { s' with heap := hB } := J.landed nb flB.1 ((up.trans upA).trans upB) os ag
    obtain ⟨oB, vB, getB, zB, dB⟩ := flB.there
    have SB := JB.suite getB dB na nL nF
    refine store_ok (X := X.suite a ((a, oB) :: (X.pn ++ pins))) (v := .ref a) SB hN hi (.inl hln) rfl (fun s5 S5 => ?_) (.inr hln)
    have hset : PSs (X.suite a ((a, oB) :: (X.pn ++ pins))) [.Assign [.Name y py] (.Name n pn) spos] (L2.tAsg (tVar i) (gName j)) :=
      pss_one (ps_set (X := X.suite a ((a, oB) :: (X.pn ++ pins))) hN hj (.inl hly) (pe_var hi hvn hnd hnc) hsw (.inr hly))
    have hlen : i < σ'.length := by
      rw [J.len]
      exact (List.getElem?_eq_some_iff.mp hi).1
    refine wpAny_mono (hset.run [] s5 _ H' { nx := fun σ6 H6 => D.nx (σ6.set i none) (upd H6 a (ExK a C dd)) ∧ H6 a = none, rt := fun _ _ => False } S5 ⟨.ref a, by rw [List.getElem?_set_self hlen], hq a na, na⟩) (fun f s6 hsp => ?_) (fun _ _ z => False.elim z)
    cases f with
    | next =>
      obtain ⟨σ6, H6, S6, q6, _⟩ := hsp
      exact gone_ok (track ok S6 zB ⟨_, dB⟩ n0 nP) hN hi hln fun s7 J7 => ⟨_, _, J7, q6⟩
    | brk => exact hsp.elim fun σ6 z => z.elim fun H6 z => z.2.elim
    | cont => exact hsp.elim fun σ6 z => z.elim fun H6 z => z.2.elim
    | ret u => exact hsp.elim fun v6 z => z.elim fun σ6 z => z.elim fun H6 z => z.2.2.elim
end
/-- try: f(..) except J as e: y = e; e in slot i, y in slot j; J: what matches -/
def fTryK (J : List Str) (i j : Nat) (Fb : FxE) : FxS := fun η T => match Fb η T with
  | .no => .no
  | .ok _ T1 => .ok (.nx, η) T1
  | .ex e T1 => if e.cls ∈ J then .ok (.nx, ((η.set i none).set j (some (.ob T1.length)))) (T1 ++ [.exc e.cls e.fs]) else .no
section
variable {X : Cx} {E : XK} {x n y : Str} {J : List Str} {i j : Nat} {c : Expr} {np pn py pos pos' spos cpos : Pos} {Fb : FxE}
theorem fs_tryK (hs : X.stack = X.env :: X.outer) (hf : X.env.frame = some X.env.locals) (hex : X.ex = []) (hN : X.N.Nodup) (hi : X.N[i]? = some n) (hj : X.N[j]? = some y) (hij : i ≠ j) (hln : X.env.kindOf n = some .local) (hly : X.env.kindOf y = some .local) (hc : Names X x (.ref (He.ga X.K x)))
    (hvn : Vis X.env.scope n) (hnd : (n == ("__debug__" : Str)) = false) (hnc : (n == ("__classdict__" : Str)) = false) (hsw : swapsWith (.Name n pn) (some (.Name y py)) spos.line X.env = pure false)
    (hJ : ∀ z ∈ J, PySem.W.exmOne X.K (.ref (He.ga X.K z)) (.ref (He.ga X.K x)) = some true)
    (hb : ∀ (W : WX) (pn : List (Addr × Obj)) (xe : Value → Shared → Prop), Takes (X.tr pn xe) W → FEs (X.tr pn xe) (WE W) c Fb) (hsc : ∀ (pn : List (Addr × Obj)) (xe : Value → Shared → Prop), swapsWith c none cpos.line (X.tr pn xe).env = pure false) :
    FS X E (.Try [.Expr c cpos] [.ExceptHandler (some (.Name x np)) (some n) [.Assign [.Name y py] (.Name n pn) spos] pos'] [] [] pos) (fTryK J i j Fb) := by
  obtain ⟨ft, hft⟩ := Classical.axiomOfChoice fun q : { q : WX × List (Addr × Obj) × (Value → Shared → Prop) // Takes (X.tr q.2.1 q.2.2) q.1 } => (hb q.1.1 q.1.2.1 q.1.2.2 q.2).ex
  refine ⟨fun D σ H => ∀ q : { q : WX × List (Addr × Obj) × (Value → Shared → Prop) // Takes (X.tr q.2.1 q.2.2) q.1 }, q.1.1 = wKp X.K (.ref (He.ga X.K x)) i j D → tDrop (ft q) D σ H, ?_, fun σ H ρ T η D s re h => ?_⟩
  · have key := ps_try_keep (pos := pos) (pos' := pos') (np := np) (body := [.Expr c cpos]) (tb := fun W D σ H => ∀ q : { q : WX × List (Addr × Obj) × (Value → Shared → Prop) // Takes (X.tr q.2.1 q.2.2) q.1 }, q.1.1 = W → tDrop (ft q) D σ H) hs hf hex hN hi hj hln hly hc hvn hnd hnc hsw fun W pn xe tk => ?_
    · exact key
    · have k := pss_one (ps_expr (pos := cpos) (hft ⟨(W, pn, xe), tk⟩).1 (hsc pn xe))
      exact ⟨fun pins s σ H D I q => k.run pins s σ H D I (q ⟨(W, pn, xe), tk⟩ rfl)⟩
  · rintro ⟨⟨W, pn', xe⟩, tk⟩ rfl
    refine (hft ⟨(_, pn', xe), tk⟩).2 σ H ρ T η _ s re ?_
    unfold fTryK at h
    generalize Fb η T = r at h
    cases r with
    | no => exact False.elim h
    | ok u T1 => exact fun ρ1 H1 b g s1 _ => h ρ1 H1 σ g s1 (re.gr g)
    | ex e T1 =>
      dsimp only at h
      split at h
      · rename_i he
        intro ρ1 H1 d gs g1 s1 hd hp
        refine ⟨hJ _ he, _, _, rfl, rfl, fun a ha => ?_⟩
        have ha' : H1 a = none := ha
        have g2 : Gr X.K ρ1 H1 (ρ1 ++ [a]) (upd H1 a (ExK a (He.ga X.K e.cls) d)) := Gr.new ha'
        have s2 : RS X.K (ρ1 ++ [a]) (upd H1 a (ExK a (He.ga X.K e.cls) d)) (T1 ++ [.exc e.cls e.fs]) := s1.new ha' ⟨d, gs, upd_same, g2.xd d gs hd, Paired.mapP hp fun _ _ z => ⟨z.1, z.2.gr g2⟩⟩
        refine h _ _ _ (g1.trans g2) s2 ?_
        have r2 := re.gr (g1.trans g2)
        refine ⟨?_, fun l u e2 => ?_⟩
        · rw [List.length_set, List.length_set, List.length_set, List.length_set, List.length_set]
          exact r2.len
        · by_cases hlj : l = j
          · subst hlj
            have hl : l < η.length := by
              have := (List.getElem?_eq_some_iff.mp e2).1
              simpa using this
            rw [List.getElem?_set_self (by simpa using hl)] at e2
            cases e2
            refine ⟨.ref a, ?_, .ob (by rw [← s1.len, List.getElem?_append_right (Nat.le_refl _), Nat.sub_self]; rfl)⟩
            rw [List.getElem?_set_ne hij, List.getElem?_set_self (by rw [List.length_set, ← r2.len]; exact hl)]
          · by_cases hli : l = i
            · subst hli
              rw [List.getElem?_set_ne (Ne.symm hlj)] at e2
              by_cases hl : l < η.length
              · rw [List.getElem?_set_self hl] at e2
                cases e2
              · rw [List.getElem?_eq_none (by simpa using hl)] at e2
                cases e2
            · rw [List.getElem?_set_ne (Ne.symm hlj), List.getElem?_set_ne (Ne.symm hli)] at e2
              obtain ⟨v, h1, h2⟩ := r2.at_ l u e2
              exact ⟨v, by rw [List.getElem?_set_ne (Ne.symm hli), List.getElem?_set_ne (Ne.symm hlj), List.getElem?_set_ne (Ne.symm hli)]; exact h1, h2⟩
      · exact False.elim h
end
end Lf


set_option Elab.async false
set_option linter.all false
set_option maxRecDepth 100000
set_option maxHeartbeats 4000000
/-! ## isinstance of a caught exception, its field; the head with more facts -/
namespace Lf
open PySem PySem.Spec L2

def gIsE (tab : List (Str × Bool)) : U → M U := fun u T => match u with
  | .ob k => match T[k]? with
    | some (.exc C _) => match tab.find? fun p => decide (p.1 = C) with
      | some p => .ok (.bl p.2) T
      | none => .no
    | _ => .no
  | _ => .no
def gXf (L : List Str) (f : Str) : U → M U := fun u T => match u with
  | .ob k => match T[k]? with
    | some (.exc C fs) => if C ∈ L then match fs.find? fun p => decide (p.1 = f) with
      | some p => .ok p.2 T
      | none => .no else .no
    | _ => .no
  | _ => .no
section
variable {X : Cx} {pins : List (Addr × Obj)} {σ : L2.St} {H : Hp} {s : Shared} {a C d : Addr} {gs : List (Str × V)}
theorem inst_ex (I : L2.Inv X pins σ H s) (e1 : H a = some (ExK a C d)) (e2 : H d = some (.xd gs)) :
    ∃ (oe od : Obj) (mA : Str → Option Value), PySem.W.InstAt s.heap a oe C (some od) ∧ (∀ n, PySem.W.lookIn n od = some (mA n)) ∧ ∀ n, RelO (gs.lookup n) (mA n) := by
  obtain ⟨⟨oe, vs, ha, hz, hd⟩, _, _⟩ := (show ObjOk X.prog X.w H s.heap a (.ext fun h => ∃ (oe : Obj) (vs : Array Value), h.get? a = some oe ∧ Zc (.ref C) (some d) oe ∧ oe.data = .fields vs) from I.hok a _ e1)
  obtain ⟨mA, hns, rel⟩ := (show ObjOk X.prog X.w H s.heap d (.xd gs) from I.hok d _ e2)
  obtain ⟨od, ho, hl⟩ := lookIn_ns hns
  exact ⟨oe, od, mA, ⟨ha, hz.1, by unfold PySem.W.notCls; rw [hd] <;> rfl, by rw [hz.2]; exact ho⟩, hl, rel⟩
/-- what a class, or a tuple of classes, is -/
def ClV (K : PySem.W.Frag) (Ok : Addr → Bool → Prop) (v : V) (H : Hp) : Prop := ∀ (C : Addr) (b : Bool), Ok C b →
  (∃ cv, (∀ u, RelV v u → u = cv) ∧ PySem.W.kitOne K (.ref C) cv = some b) ∨ ∃ (tp : Addr) (rs : List Addr), v = .ref tp ∧ SqT K H tp (rs.map V.ref) ∧ PySem.W.kitAny K (.ref C) (rs.map Value.ref) = some b
theorem ClV.gr {K : PySem.W.Frag} {Ok : Addr → Bool → Prop} {v : V} {ρ ρ' : List Addr} {H H' : Hp} (h : ClV K Ok v H) (g : Gr K ρ H ρ' H') : ClV K Ok v H' := fun C b o => (h C b o).imp id fun ⟨tp, rs, e, q, k⟩ => ⟨tp, rs, e, g.sq _ _ q, k⟩
theorem call_isK {Ok : Addr → Bool → Prop} : CallR X (.builtin "isinstance") (fun xs H Q => ∃ (a C d : Addr) (gs : List (Str × V)) (c : V) (b : Bool), xs = [.ref a, c] ∧ H a = some (ExK a C d) ∧ H d = some (.xd gs) ∧ ExcC X.K C ∧ ClV X.K Ok c H ∧ Ok C b ∧ Q (.bl b) H) := by
  intro pins s σ H xs us Q I r h
  obtain ⟨a, C, d, gs, c, b, rfl, e1, e2, F, hc, ok, q⟩ := h
  cases r with
  | cons rx rr =>
    cases rr with
    | cons rt rr =>
      cases rr
      cases rx
      obtain ⟨oe, od, mA, J, _, _⟩ := inst_ex I e1 e2
      have hcl : (PySem.W.clsIn X.K C).isSome = true := by
        obtain ⟨cd, hcd, _⟩ := PySem.W.any_some F.hd
        rw [hcd] <;> rfl
      have Z : PySem.W.KitX X.K (.ref a) (.ref C) (fun h => PySem.W.InstAt h a oe C (some od)) := PySem.W.kitx_exc hcl F.hg F.hk F.hs F.ha F.hn F.ht F.hm
      rcases hc C b ok with ⟨cv, e, k⟩ | ⟨tp, rs, rfl, sq, k⟩
      · have := e _ rt
        subst this
        exact PySem.W.kia_one Z I.kIn J k (fun z => nomatch z) fun tk => ⟨.bl b, H, I.tok _, rfl, q⟩
      · cases rt
        obtain ⟨its, rv, ⟨o, ho, hcls, n, hdat⟩, hz⟩ := I.tuple sq
        have hits : its = rs.map Value.ref := by
          clear k sq ho hdat hz
          induction rs generalizing its with
          | nil => cases rv; rfl
          | cons x r ih =>
            cases rv with
            | @cons _ u _ ur ru rr => rw [show u = Value.ref x from ru, List.map_cons, ih _ rr]
        subst hits
        obtain ⟨oc, odd, oda, osl⟩ := o
        dsimp only at hcls hdat
        subst hcls hdat
        exact PySem.W.kia_tup Z I.kIn J ho k (fun z => nomatch z) fun tk => ⟨.bl b, H, I.tok _, rfl, q⟩
end
structure FCl (X : Cx) (c : Expr) (Ok : Addr → Bool → Prop) : Prop where
  ex : ∃ tc : TE, PE X c tc ∧ ∀ (σ : L2.St) (H : Hp) (ρ : List Addr) (T : Sto) (Q : V → Hp → Prop), RS X.K ρ H T → (∀ v H', Gr X.K ρ H ρ H' → RS X.K ρ H' T → ClV X.K Ok v H' → Q v H') → tc σ H Q
section
variable {X : Cx} {E : XK} {y : Str} {p p2 pos : Pos} {e c : Expr} {Fe : FxE} {Ok : Addr → Bool → Prop}
theorem fcl_own (hg : Gl X y) (hm : X.mg y = some (.ref (He.ga X.K y))) (hd : (y == ("__debug__" : Str)) = false := by decide) : FCl X (.Name y p) (fun C b => PySem.W.kitOne X.K (.ref C) (.ref (He.ga X.K y)) = some b) :=
  ⟨_, pe_glob (v := .ref (He.ga X.K y)) hg hm rfl hd, fun σ H ρ T Q s h => h _ _ Gr.refl s fun C b o => .inl ⟨_, fun u r => r, o⟩⟩
theorem fcl_blt {n : String} (hg : Gl X y) (hm : X.mg y = none) (hv : bootBuiltins y = some (.type n)) (hn : y ≠ "__name__" := by decide) (hd : (y == ("__debug__" : Str)) = false := by decide) : FCl X (.Name y p) (fun C b => PySem.W.kitOne X.K (.ref C) (.type n) = some b) :=
  ⟨_, pe_bltn (v := .ty n) hg hm hv rfl hn hd, fun σ H ρ T Q s h => h _ _ Gr.refl s fun C b o => .inl ⟨_, fun u r => r, o⟩⟩
/-- a tuple of own classes -/
structure PAc (X : Cx) (es : List Expr) (ys : List Str) : Prop where
  ex : ∃ t : TA, PA X es t ∧ ∀ (σ : L2.St) (H : Hp) (Q : List V → Hp → Prop), Q (ys.map fun y => V.ref (He.ga X.K y)) H → t σ H Q
theorem pac_nil : PAc X [] [] := ⟨_, pa_nil, fun _ _ _ h => h⟩
theorem pac_cons {es : List Expr} {ys : List Str} (hg : Gl X y) (hm : X.mg y = some (.ref (He.ga X.K y))) (h : PAc X es ys) (hd : (y == ("__debug__" : Str)) = false := by decide) : PAc X (.Name y p :: es) (y :: ys) := by
  obtain ⟨t, k, q⟩ := h
  exact ⟨_, pa_cons (pe_glob (v := .ref (He.ga X.K y)) hg hm rfl hd) k, fun σ H Q h => q σ H _ h⟩
theorem fcl_tup {es : List Expr} {ys : List Str} {k : Nat} (h : PAc X es ys) (hl : ys.length ≤ 1000 := by decide) : FCl X (.Tuple es k pos) (fun C b => PySem.W.kitAny X.K (.ref C) (ys.map fun y => Value.ref (He.ga X.K y)) = some b) := by
  obtain ⟨t, kk, q⟩ := h
  refine ⟨_, pe_tup kk, fun σ H ρ T Q s h => q σ H _ ⟨by rw [List.length_map, sizeLine_eq]; omega, fun pp n => h _ _ (Gr.fill n) (s.fill n) fun C b o => .inr ⟨pp, ys.map fun y => He.ga X.K y, rfl, ?_, ?_⟩⟩⟩
  · rw [List.map_map]
    exact SqT.of upd_same
  · rw [List.map_map]
    exact o
theorem fe_isE (tab : List (Str × Bool)) (hg : Gl X "isinstance") (hm : X.mg "isinstance" = none) (hv : bootBuiltins "isinstance" = some (.builtin "isinstance")) (he : FE X E e Fe) (hc : FCl X c Ok) (ht : ∀ p ∈ tab, ExcC X.K (He.ga X.K p.1) ∧ Ok (He.ga X.K p.1) p.2)
    (hs1 : starEach [c] X.env = (false, eval c X.env) :: starEach [] X.env := by rfl) (hs : starEach [e, c] X.env = (false, eval e X.env) :: starEach [c] X.env := by rfl) (hpl : (backTo pos (starEach [c] X.env)).any (·.1) = false := by rfl) :
    FE X E (.Call (.Name "isinstance" p) [e, c] [] pos) (fUn (gIsE tab) Fe) := by
  obtain ⟨t, k, q⟩ := he
  obtain ⟨tc, kc, qc⟩ := hc
  refine ⟨_, pe_callB (call_isK (Ok := Ok)) hg hm hv (pa_cons k (pa_cons kc pa_nil hs1) hs) (by decide) (by decide) hs hpl, fun σ H ρ T η Q s r h => ?_⟩
  refine q σ H ρ T η _ s r (OK.mono (OK.bind h) fun x H1 ⟨ρ1, T1, u, g1, s1, r1, k1⟩ => ?_)
  refine qc σ H1 ρ1 T1 _ s1 fun v H2 g2 s2 cl => ?_
  unfold gIsE at k1
  split at k1
  · rename_i l
    split at k1
    · rename_i C fs eT
      split at k1
      · rename_i pr ep
        have hin := List.mem_of_find?_eq_some ep
        have hC : pr.1 = C := by simpa using List.find?_some ep
        subst hC
        obtain ⟨F, ok⟩ := ht pr hin
        cases r1 with
        | @ob _ a ea =>
          obtain ⟨a', p1, d, gs, f1, f2, _⟩ := s2.get eT
          rw [ea] at p1
          cases p1
          exact ⟨a, _, d, gs, v, pr.2, rfl, f1, f2, F, cl, ok, okV s2 (OK.gr k1 g2) (.bl _)⟩
      · exact False.elim k1
    · exact False.elim k1
  · exact False.elim k1
theorem fe_xf {n : Str} (L : List Str) (he : FE X E e Fe) (hL : ∀ C ∈ L, XfC X.K (He.ga X.K C) ∧ PySem.W.findIn X.K (.ref (He.ga X.K C)) n = some none) (hb : attributeBase e n X.env (eval e X.env) = eval e X.env := by rfl) :
    FE X E (.Attribute e n pos) (fUn (gXf L n) Fe) := by
  obtain ⟨t, k, q⟩ := he
  refine ⟨fun σ H Q => t σ H fun x H1 => ∃ (a C d : Addr) (gs : List (Str × V)) (v : V), x = .ref a ∧ H1 a = some (ExK a C d) ∧ H1 d = some (.xd gs) ∧ XfC X.K C ∧ PySem.W.findIn X.K (.ref C) n = some none ∧ gs.lookup n = some v ∧ Q v H1, ⟨fun pins s σ H Q I h => ?_⟩, fun σ H ρ T η Q s r h => ?_⟩
  · refine attr_of hb (thn (k.run pins s σ H _ I h) fun u s1 ⟨x, H1, I1, rx, a, C, d, gs, v, ex, e1, e2, F, no, l, q⟩ => ?_)
    subst ex
    obtain rfl : u = Value.ref a := rx
    obtain ⟨oe, od, mA, J, hl, rel⟩ := inst_ex I1 e1 e2
    have hr := rel n
    rw [l] at hr
    cases em : mA n with
    | none => rw [em] at hr; exact hr.elim
    | some w =>
      rw [em] at hr
      exact HandSPX.exc_get I1.kIn J F.ga F.gg F.exC (PySem.W.findObj_own F.hdC no rfl (by rw [hl, em])) (handed_of hr) ⟨v, H1, I1.tok _, hr, q⟩
  · refine q σ H ρ T η _ s r (OK.mono (OK.bind h) fun x H1 ⟨ρ1, T1, u, g1, s1, r1, k1⟩ => ?_)
    unfold gXf at k1
    split at k1
    · rename_i l
      split at k1
      · rename_i C fs eT
        split at k1
        · rename_i hC
          split at k1
          · rename_i pr ep
            have hf : pr.1 = n := by simpa using List.find?_some ep
            obtain ⟨F, no⟩ := hL C hC
            cases r1 with
            | @ob _ a ea =>
              obtain ⟨a', p1, d, gs, f1, f2, hp⟩ := s1.get eT
              rw [ea] at p1
              cases p1
              have key : ∃ v, gs.lookup n = some v ∧ RV X.K ρ1 H1 pr.2 v := by
                clear k1 f2 eT
                induction hp with
                | nil => cases ep
                | @cons x z xs zs hxz hr ih =>
                  obtain ⟨hx1, hx2⟩ := hxz
                  rw [List.find?_cons] at ep
                  obtain ⟨z1, z2⟩ := z
                  have hx1 : x.1 = z1 := hx1
                  split at ep
                  · rename_i hd
                    cases ep
                    have : n = z1 := hf.symm.trans hx1
                    refine ⟨z2, ?_, hx2⟩
                    rw [List.lookup_cons, this, beq_self_eq_true]
                  · rename_i hd
                    obtain ⟨v, h1, h2⟩ := ih ep
                    refine ⟨v, ?_, h2⟩
                    have : ¬ n = z1 := fun e => of_decide_eq_false hd (hx1.trans e.symm)
                    rw [List.lookup_cons, beq_false_of_ne this]
                    exact h1
              obtain ⟨v, hl, rv⟩ := key
              exact ⟨a, _, d, gs, v, rfl, f1, f2, F, no, hl, okV s1 k1 rv⟩
          · exact False.elim k1
        · exact False.elim k1
      · exact False.elim k1
    · exact False.elim k1
end
/-! ### the head: facts of one's own, the statics among what is read -/
def obsF (n : Nat) (fa : List He.Fa) (fn : List He.DefD) (fx : PySem.W.Frag → Bool) (g : Addr → Option Obj) : Bool × He.AlD :=
  (fx (He.frG g (cStatics :: He.asD g n)), He.obsD fa fn (He.frG g (cStatics :: He.asD g n)))
/-- both kinds of facts -/
structure SaysF (fa : List He.Fa) (fn : List He.DefD) (fx : PySem.W.Frag → Bool) (K : PySem.W.Frag) : Prop where
  d : He.SaysD fa fn K
  x : fx K = true
def hookF (n : Nat) (fa : List He.Fa) (fn : List He.DefD) (fx : PySem.W.Frag → Bool) : PySem.W.Hook where
  α := Bool × He.AlD
  obs := fun s => obsF n fa fn fx s.heap.get?
  val := fun _ => (true, He.valD fn)
  says := fun _ h => ∃ K : PySem.W.Frag, K.In h ∧ SaysF fa fn fx K
  of := fun _ _ e => ⟨_, He.frG_in, congrArg (fun z : Bool × He.AlD => z.2) e, congrArg (fun z : Bool × He.AlD => z.1) e⟩
  keeps := fun _ _ _ ⟨K, hK, c⟩ k => ⟨K, PySem.W.Frag.In.keeps hK k, c⟩
theorem obsF_eq {n : Nat} {fa : List He.Fa} {fn : List He.DefD} {fx : PySem.W.Frag → Bool} {g : Addr → Option Obj} {s : Shared} (h : ∀ a, g a = s.heap.get? a) : obsF n fa fn fx g = (hookF n fa fn fx).obs s := by
  rw [funext h] <;> rfl
end Lf


set_option Elab.async false
set_option linter.all false
set_option maxRecDepth 100000
set_option maxHeartbeats 4000000
/-! ## run with its raise; the laws' own run -/
namespace Lf
open PySem PySem.Spec L2
theorem wp_noex {α : Type} {r : R α} {Q : α → Sto → Prop} (h : Wp r Q) : Wp (noex r) Q := by
  obtain ⟨a, T, rfl, h⟩ := h
  exact ⟨a, T, rfl, h⟩
def rnF (F : FxS) (sc ex af : List U → M U) : FxS :=
  fSeq (fIf (fBl (fBin gGt (fCall (kdG .pur 1 sc) (fCons (fVar 1) (fNil))) (fC (.int 20000)))) (F) (fSkip)) (fSeq (fPar3 4 5 6 (fCons (fVar 2) (fCons (fLst (fNil)) (fCons (fCall gList (fCons (fVar 3) (fNil))) (fNil))))) (fSeq (fDrop (fMeth isL gReverse (fVar 6) fNil)) (fSeq (fFor (fIter (fCall (kdG .pur 1 ex) (fCons (fVar 1) (fNil)))) (gNm 7) (fSeq (fIf (fBl (fBin (gEq false) (fBin gIx (fVar 7) (fC (.int 0))) (fC (.str "write")))) (fDrop (fMeth isL gAppend (fVar 5) (fCons (fBin gIx (fVar 4) (fBin gIx (fVar 7) (fC (.int 1)))) (fNil)))) (fSkip)) (fSet 4 (fCall (kdG .pur 4 af) (fCons (fVar 0) (fCons (fVar 7) (fCons (fVar 4) (fCons (fIfE (fBl (fBin (gEq false) (fBin gIx (fVar 7) (fC (.int 0))) (fC (.str "read")))) (fMeth isL gPop (fVar 6) fNil) (fC (.int 0))) (fNil))))))))) (fRet (fTup (fCons (fVar 4) (fCons (fCall gTuple (fCons (fVar 5) (fNil))) (fNil))))))))
/-- the program's run, its steps known; F: what stands in the place of the raise -/
local macro_rules | `(tactic| rfl') => `(tactic| repeat (first | with_reducible refine Lf.kS_nx ?_ | with_reducible refine Lf.kS_rt ?_ | with_reducible refine Lf.kS_bk ?_ | with_reducible refine Lf.kS_ct ?_ | with_reducible refine Lf.kD_rt ?_ | with_reducible refine Lf.kD_nx ?_ | with_reducible refine Lf.kF_nx ?_ | with_reducible refine Lf.kF_ct ?_ | with_reducible refine Lf.kF_bk ?_ | with_reducible refine Lf.kF_rt ?_ | with_reducible refine Lf.v_ifT ?_ | with_reducible refine Lf.v_ifF ?_ | with_reducible refine Lf.v_ifNT ?_ | with_reducible refine Lf.v_ifNF ?_ | with_reducible refine Lf.kP_int ?_ | with_reducible refine Lf.kP_bl ?_ | with_reducible refine Lf.kP_str ?_ | with_reducible refine Lf.kP_non ?_ | with_reducible refine Lf.v_iadd ?_ | with_reducible refine Lf.Wp.ok ?_ | with_reducible refine Lf.seq_wp ?_ | with_reducible refine Lf.v_bin ?_ | with_reducible refine Lf.v_cons ?_ | with_reducible refine Lf.v_call ?_ | with_reducible refine Lf.v_ret ?_ | with_reducible refine Lf.v_set ?_ | with_reducible refine Lf.v_asg ?_ | with_reducible refine Lf.v_if ?_ | with_reducible refine Lf.v_ifE ?_ | with_reducible refine Lf.v_bl ?_ | with_reducible refine Lf.v_tru ?_ | with_reducible refine Lf.v_and ?_ | with_reducible refine Lf.v_or ?_ | with_reducible refine Lf.v_not ?_ | with_reducible refine Lf.v_andV ?_ | with_reducible refine Lf.v_orV ?_ | with_reducible refine Lf.v_notV ?_ | with_reducible refine Lf.v_c ?_ | with_reducible refine Lf.v_nil ?_ | with_reducible refine Lf.v_skip ?_ | with_reducible refine Lf.v_drop ?_ | with_reducible refine Lf.v_retN ?_ | with_reducible refine Lf.v_brk ?_ | with_reducible refine Lf.v_cnt ?_ | with_reducible refine Lf.v_nm ?_ | with_reducible refine Lf.v_gnil ?_ | with_reducible refine Lf.v_gcons ?_ | with_reducible refine Lf.v_yes ?_ | with_reducible refine Lf.v_for ?_ | with_reducible refine Lf.v_lc ?_ | with_reducible refine Lf.v_rg ?_ | with_reducible refine Lf.v_iter ?_ | with_reducible refine Lf.v_iterT ?_ | with_reducible refine Lf.v_add ?_ | with_reducible refine Lf.v_sub ?_ | with_reducible refine Lf.v_neg ?_ | with_reducible refine Lf.v_lt ?_ | with_reducible refine Lf.v_le ?_ | with_reducible refine Lf.v_gt ?_ | with_reducible refine Lf.v_ge ?_ | with_reducible refine Lf.v_eqI ?_ | with_reducible refine Lf.v_neI ?_ | with_reducible refine Lf.v_abs ?_ | with_reducible refine Lf.v_intI ?_ | with_reducible refine Lf.v_intB ?_ | with_reducible refine Lf.v_max2 ?_ | with_reducible refine Lf.v_min2 ?_ | with_reducible refine Lf.v_lenT ?_ | with_reducible refine Lf.v_lenN ?_ | with_reducible refine Lf.v_nw ?_ | with_reducible refine Lf.v_un ?_ | with_reducible refine Lf.v_tup ?_ | with_reducible refine Lf.v_lst ?_ | with_reducible refine Lf.v_par2 ?_ | with_reducible refine Lf.v_par3 ?_ | with_reducible refine Lf.v_chain ?_ | with_reducible refine Lf.v_meth ?_ | with_reducible refine Lf.v_subT ?_ | with_reducible refine Lf.v_isiIB ?_ | with_reducible refine Lf.v_isiII ?_ | with_reducible refine Lf.v_sl ?_ | with_reducible refine Lf.v_noP ?_ | with_reducible refine Lf.v_pt ?_ | with_reducible refine Lf.v_cutT ?_ | ((with_reducible apply Lf.v_var); exact rfl) | ((with_reducible refine Lf.v_kw ?_ ?_); exact rfl) | ((with_reducible apply Lf.v_iterO); first | exact rfl | assumption) | ((with_reducible apply Lf.v_lenL); first | exact rfl | assumption) | ((with_reducible refine Lf.v_unp ?_ ?_); exact rfl) | ((with_reducible apply Lf.v_aug); exact rfl) | ((with_reducible refine Lf.v_mod ?_ ?_); first | decide | omega | assumption | fail) | ((with_reducible refine Lf.v_div ?_ ?_); first | exact ⟨by decide, by decide +kernel⟩ | assumption | exact Lf.log2d (by omega) ⟨by omega, by omega⟩ | fail) | ((with_reducible refine Lf.v_mul ?_ ?_); first | exact Lf.log2m ⟨by omega, by omega⟩ ⟨by omega, by omega⟩ | exact Lf.log2m (by assumption) ⟨by omega, by omega⟩ | exact Lf.log2m ⟨by omega, by omega⟩ (by assumption) | fail) | ((with_reducible refine Lf.v_pow ?_ ?_); exact ⟨by decide, by decide, by decide⟩) | ((with_reducible refine Lf.v_rg1 ?_ ?_); first | decide | fail) | ((with_reducible apply Lf.v_ixL); (first | exact rfl | assumption | fail); (first | exact rfl | assumption | fail)) | ((with_reducible apply Lf.v_ixT); (first | exact rfl | assumption | fail)) | ((with_reducible apply Lf.v_ixN); (first | exact rfl | assumption | fail)) | with_reducible refine ⟨_, rfl, ?_⟩ | (refine ⟨_, (rfl : Lf.tru _ (Lf.U.bl _) = some _), ?_⟩) | with_reducible refine ⟨_, _, rfl, ?_⟩ | with_reducible refine ⟨_, _, _, rfl, ?_⟩ | (refine ⟨(Nat.le_of_ble_eq_true rfl : List.length _ ≤ 16777216), ?_⟩) | with_reducible refine Lf.v_enum ?_ | fail))
local macro_rules | `(tactic| bv_omega) => `(tactic| repeat (first | with_reducible refine Lf.kS_nx ?_ | with_reducible refine Lf.kS_rt ?_ | with_reducible refine Lf.kS_bk ?_ | with_reducible refine Lf.kS_ct ?_ | with_reducible refine Lf.kD_rt ?_ | with_reducible refine Lf.kD_nx ?_ | with_reducible refine Lf.kF_nx ?_ | with_reducible refine Lf.kF_ct ?_ | with_reducible refine Lf.kF_bk ?_ | with_reducible refine Lf.kF_rt ?_ | with_reducible refine Lf.v_ifT ?_ | with_reducible refine Lf.v_ifF ?_ | with_reducible refine Lf.v_ifNT ?_ | with_reducible refine Lf.v_ifNF ?_ | with_reducible refine Lf.kP_int ?_ | with_reducible refine Lf.kP_bl ?_ | with_reducible refine Lf.kP_str ?_ | with_reducible refine Lf.kP_non ?_ | with_reducible refine Lf.v_iadd ?_ | with_reducible refine Lf.Wp.ok ?_ | with_reducible refine Lf.seq_wp ?_ | with_reducible refine Lf.v_bin ?_ | with_reducible refine Lf.v_cons ?_ | with_reducible refine Lf.v_call ?_ | with_reducible refine Lf.v_ret ?_ | with_reducible refine Lf.v_set ?_ | with_reducible refine Lf.v_asg ?_ | with_reducible refine Lf.v_if ?_ | with_reducible refine Lf.v_ifE ?_ | with_reducible refine Lf.v_bl ?_ | with_reducible refine Lf.v_tru ?_ | with_reducible refine Lf.v_and ?_ | with_reducible refine Lf.v_or ?_ | with_reducible refine Lf.v_not ?_ | with_reducible refine Lf.v_andV ?_ | with_reducible refine Lf.v_orV ?_ | with_reducible refine Lf.v_notV ?_ | with_reducible refine Lf.v_c ?_ | with_reducible refine Lf.v_nil ?_ | with_reducible refine Lf.v_skip ?_ | with_reducible refine Lf.v_drop ?_ | with_reducible refine Lf.v_retN ?_ | with_reducible refine Lf.v_brk ?_ | with_reducible refine Lf.v_cnt ?_ | with_reducible refine Lf.v_nm ?_ | with_reducible refine Lf.v_gnil ?_ | with_reducible refine Lf.v_gcons ?_ | with_reducible refine Lf.v_yes ?_ | with_reducible refine Lf.v_for ?_ | with_reducible refine Lf.v_lc ?_ | with_reducible refine Lf.v_rg ?_ | with_reducible refine Lf.v_iter ?_ | with_reducible refine Lf.v_iterT ?_ | with_reducible refine Lf.v_add ?_ | with_reducible refine Lf.v_sub ?_ | with_reducible refine Lf.v_neg ?_ | with_reducible refine Lf.v_lt ?_ | with_reducible refine Lf.v_le ?_ | with_reducible refine Lf.v_gt ?_ | with_reducible refine Lf.v_ge ?_ | with_reducible refine Lf.v_eqI ?_ | with_reducible refine Lf.v_neI ?_ | with_reducible refine Lf.v_abs ?_ | with_reducible refine Lf.v_intI ?_ | with_reducible refine Lf.v_intB ?_ | with_reducible refine Lf.v_max2 ?_ | with_reducible refine Lf.v_min2 ?_ | with_reducible refine Lf.v_lenT ?_ | with_reducible refine Lf.v_lenN ?_ | with_reducible refine Lf.v_nw ?_ | with_reducible refine Lf.v_un ?_ | with_reducible refine Lf.v_tup ?_ | with_reducible refine Lf.v_lst ?_ | with_reducible refine Lf.v_par2 ?_ | with_reducible refine Lf.v_par3 ?_ | with_reducible refine Lf.v_chain ?_ | with_reducible refine Lf.v_meth ?_ | with_reducible refine Lf.v_subT ?_ | with_reducible refine Lf.v_isiIB ?_ | with_reducible refine Lf.v_isiII ?_ | with_reducible refine Lf.v_sl ?_ | with_reducible refine Lf.v_noP ?_ | with_reducible refine Lf.v_pt ?_ | with_reducible refine Lf.v_cutT ?_ | ((with_reducible apply Lf.v_var); exact rfl) | ((with_reducible refine Lf.v_kw ?_ ?_); exact rfl) | ((with_reducible apply Lf.v_iterO); first | exact rfl | assumption) | ((with_reducible apply Lf.v_lenL); first | exact rfl | assumption) | ((with_reducible refine Lf.v_unp ?_ ?_); exact rfl) | ((with_reducible apply Lf.v_aug); exact rfl) | ((with_reducible refine Lf.v_mod ?_ ?_); first | decide | omega | assumption | fail) | ((with_reducible refine Lf.v_div ?_ ?_); first | exact ⟨by decide, by decide +kernel⟩ | assumption | exact Lf.log2d (by omega) ⟨by omega, by omega⟩ | fail) | ((with_reducible refine Lf.v_mul ?_ ?_); first | exact Lf.log2m ⟨by omega, by omega⟩ ⟨by omega, by omega⟩ | exact Lf.log2m (by assumption) ⟨by omega, by omega⟩ | exact Lf.log2m ⟨by omega, by omega⟩ (by assumption) | fail) | ((with_reducible refine Lf.v_pow ?_ ?_); exact ⟨by decide, by decide, by decide⟩) | ((with_reducible refine Lf.v_rg1 ?_ ?_); first | decide | fail) | ((with_reducible apply Lf.v_ixL); (first | exact rfl | assumption | fail); (first | exact rfl | assumption | fail)) | ((with_reducible apply Lf.v_ixT); (first | exact rfl | assumption | fail)) | ((with_reducible apply Lf.v_ixN); (first | exact rfl | assumption | fail)) | with_reducible refine ⟨_, rfl, ?_⟩ | (refine ⟨_, (rfl : Lf.tru _ (Lf.U.bl _) = some _), ?_⟩) | with_reducible refine ⟨_, _, rfl, ?_⟩ | with_reducible refine ⟨_, _, _, rfl, ?_⟩ | (refine ⟨(Nat.le_of_ble_eq_true rfl : List.length _ ≤ 16777216), ?_⟩) | with_reducible refine Lf.v_enum ?_ | with_reducible refine Lf.v_eqS0 ?_ | with_reducible refine Lf.v_neT ?_ | with_reducible refine Lf.v_ix0 ?_ | with_reducible refine Lf.v_tupleT ?_ | with_reducible refine Lf.v_listT ?_ | with_reducible refine Lf.v_revT ?_ | with_reducible refine Lf.v_dic0 ?_ | with_reducible refine Lf.v_dic1 ?_ | ((with_reducible apply Lf.isl_and); (first | exact rfl | assumption | fail)) | ((with_reducible apply Lf.v_appZ); (first | exact rfl | assumption | fail); (first | omega | (simp only [List.length_append, List.length_map, List.length_cons, List.length_nil]; omega) | (simp; omega) | fail)) | ((with_reducible apply Lf.v_tupleL); (first | exact rfl | assumption | fail)) | ((with_reducible apply Lf.v_listL); (first | exact rfl | assumption | fail)) | ((with_reducible refine Lf.v_yesd ?_ ?_); (first | (with_reducible rfl) | assumption | (exact fun z => z rfl) | decide +kernel | omega | fail)) | ((with_reducible refine Lf.v_nod ?_ ?_); (first | (with_reducible rfl) | assumption | (exact fun z => z rfl) | decide +kernel | omega | fail)) | ((with_reducible refine Lf.v_yesn ?_ ?_); (first | (with_reducible rfl) | assumption | (exact fun z => z rfl) | decide +kernel | omega | fail)) | ((with_reducible refine Lf.v_non ?_ ?_); (first | (with_reducible rfl) | assumption | (exact fun z => z rfl) | decide +kernel | omega | fail)) | ((with_reducible refine Lf.kP_tup ?_ ?_); first | exact rfl | exact Lf.nrs_ints _ | assumption | fail) | ((with_reducible refine Lf.v_rg1 ?_ ?_); exact Lf.small62_of (by omega) (by omega)) | fail))
theorem rnG_ok {F : FxS} {g sc ex af : List U → M U} (hg : g = gDef 8 (rnF F sc ex af)) (ha : af = gDef 6 afA) {xs l : List U} {m0 : Int} (hm0 : m0 ≤ 20000)
    (hsc : ∀ (T : Sto) (Q : U → Sto → Prop), Q (.int m0) T → Wp (kdG .pur 1 sc [.tup xs] T) Q) (hex : ∀ (T : Sto) (Q : U → Sto → Prop), Q (.ob T.length) (T ++ [.lst l]) → Wp (kdG .pur 1 ex [.tup xs] T) Q) (hnr : nrs xs = true) (hll : l.length ≤ 20000)
    {p n : Int} {ws : List Str} (p1 : 2 ≤ p) (p2 : p < 1000000) (hop : ∀ x ∈ l, OpOk p n ws x)
    {rs ins : List Int} (hn : (rs.length : Int) = n) (hr : InP p rs) (hi : InP p ins) (hil : cwt ["read"] (l) ≤ ins.length) (hil2 : ins.length ≤ 1000000) {T : Sto} {Q : U → Sto → Prop} (q : Q (.tup [.tup ((stF p (l) (rs, [], ins)).1.map .int), .tup ((stF p (l) (rs, [], ins)).2.1.map .int)]) T) :
    Wp (kdG .pur 4 (fun us T => noex (g us T)) [.int p, .tup xs, .tup (rs.map .int), .tup (ins.map .int)] T) Q := by
  subst hg
  refine purK (n := 4) (g := fun us T => noex (gDef 8 (rnF F sc ex af) us T)) (us := [.int p, .tup xs, .tup (rs.map .int), .tup (ins.map .int)]) rfl ?_ ?_
  · show (true && (nrs xs && (nrs (rs.map .int) && (nrs (ins.map .int) && true)))) = true
    rw [hnr, nrs_ints, nrs_ints]; rfl
  show Wp (noex (gDef 8 _ _ [])) _
  refine wp_noex (gDef_wp ?_)
  unfold rnF
  rfl'
  refine hsc _ _ ?_
  rfl'
  refine v_nod (by omega) ?_
  rfl'
  refine v_list (xs := ins.map .int) rfl ?_
  rfl'
  refine ⟨rfl, ?_⟩
  rfl'
  refine v_rvs (xs := ins.map .int) rfl ?_
  rfl'
  refine hex _ _ ?_
  refine v_iterO (xs := l) rfl ?_
  have g0 : GoodS p n (rs, [], ins) := ⟨hr, hn, fun _ h => (nomatch h), hi⟩
  refine wp_forL (fun i η T => (∃ o7, η = [some (.int p), some (.tup xs), some (.tup (rs.map .int)), some (.tup (ins.map .int)), some (.tup ((stF p (l.take i) (rs, [], ins)).1.map .int)), some (.ob 0), some (.ob 1), o7]) ∧ T = [.lst ((stF p (l.take i) (rs, [], ins)).2.1.map .int), .lst ((stF p (l.take i) (rs, [], ins)).2.2.map .int).reverse, .lst l]) ⟨⟨_, rfl⟩, rfl⟩ (fun i η T ⟨_, e⟩ => by subst e; rfl) (fun i x η T hx ⟨⟨o7, e⟩, eT⟩ => ?_) (fun η T ⟨⟨o7, e⟩, eT⟩ => ?_)
  · subst e eT
    have hxo := hop x (List.mem_of_getElem? hx)
    have hil' := (List.getElem?_eq_some_iff.mp hx).1
    have tk : l.take (i + 1) = l.take i ++ [x] := by rw [List.take_succ, hx]; rfl
    have gi := st_good p1 (l := l.take i) (s := (rs, [], ins)) (fun y hy => hop y (List.mem_of_mem_take hy)) g0
    have ci := st_cnt (l := l.take i) (s := (rs, [], ins)) (fun y hy => hop y (List.mem_of_mem_take hy)) (p := p)
    have cn := cwt_nn ["write"] (l.take i)
    have e1 : stF p (l.take (i + 1)) (rs, [], ins) = stepS p (stF p (l.take i) (rs, [], ins)) x := by rw [tk, stF_app]; rfl
    have cr : cwt ["read"] (l.take i) + wt ["read"] x ≤ ins.length := by
      have h1 : cwt ["read"] l = cwt ["read"] (l.take (i + 1)) + cwt ["read"] (l.drop (i + 1)) := by rw [← cwt_app, List.take_append_drop]
      have h2 := (cwt_nn ["read"] (l.drop (i + 1))).1
      have h3 : cwt ["read"] (l.take (i + 1)) = cwt ["read"] (l.take i) + wt ["read"] x := by rw [tk, cwt_app]; simp [cwt]
      omega
    rw [e1]
    have cr0 := (cwt_nn ["read"] (l.take i)).1
    generalize stF p (l.take i) (rs, [], ins) = s at *
    obtain ⟨s1, s2, s3⟩ := s
    obtain ⟨gr, gl, go, gi⟩ := gi
    simp only at gr gl go gi ci
    rcases hxo.cases with ⟨a, rfl, a0, a1⟩ | ⟨a, rfl, a0, a1⟩ | hc
    · rw [wt_w, if_pos rfl] at cr
      have hne : s3 ≠ [] := fun z => by
        have := congrArg List.length ci.1
        rw [z, List.length_drop] at this
        simp at this
        omega
      obtain ⟨v, s3', rfl⟩ : ∃ v s3', s3 = v :: s3' := by
        cases s3 with
        | nil => exact absurd rfl hne
        | cons v s3' => exact ⟨v, s3', rfl⟩
      rw [step_rd]
      have hpop : ∀ T0 T2 : O, Wp (gPop (.ob 1) [] [T0, .lst (((v :: s3').map U.int).reverse), T2]) fun u T => u = .int v ∧ T = [T0, .lst ((s3'.map U.int).reverse), T2] := fun T0 T2 => by
        have e3 : ((v :: s3').map U.int).reverse = (s3'.map U.int).reverse ++ [U.int v] := by simp
        rw [e3]
        unfold gPop
        show Wp (match ((s3'.map U.int).reverse ++ [U.int v])[((s3'.map U.int).reverse ++ [U.int v]).length - 1]? with
          | some u => .ok u ([T0, O.lst ((s3'.map U.int).reverse ++ [.int v]), T2].set 1 (.lst ((s3'.map U.int).reverse ++ [U.int v]).dropLast))
          | none => .no) _
        rw [List.length_append, List.length_singleton, Nat.add_sub_cancel, List.getElem?_append_right (Nat.le_refl _), Nat.sub_self]
        refine .ok ⟨rfl, ?_⟩
        rw [List.dropLast_concat]; rfl
      try dsimp only
      bv_omega
      refine (hpop _ _).mono fun u T ⟨eu, eT⟩ => ?_
      subst eu eT
      bv_omega
      refine afA_ok ha hxo p1 p2 gl gr ?_
      have ea : aft p (.tup [.str "read", .int a]) s1 v = s1.set a.toNat v := by
        show (if Str.ofString "read" = Str.ofString "read" then s1.set a.toNat v else s1) = _
        rw [if_pos rfl]
      rw [ea]
      bv_omega
      exact ⟨⟨_, rfl⟩, rfl⟩
    · rw [step_wr]
      try dsimp only
      bv_omega
      refine v_ixT (atI_regs a0 (by omega)) ?_
      bv_omega
      refine v_app rfl ⟨by rw [List.length_map]; have h9 := ci.2; simp at h9; rw [List.length_take] at cn; omega, ?_⟩
      bv_omega
      refine afA_ok ha hxo p1 p2 gl gr ?_
      have ea : aft p (.tup [.str "write", .int a]) s1 0 = s1 := by
        show (if Str.ofString "write" = Str.ofString "read" then s1.set a.toNat 0 else s1) = _
        rw [if_neg (by decide +kernel)]
      rw [ea]
      bv_omega
      exact ⟨⟨_, rfl⟩, by simp⟩
    · rw [step_cm hc]
      have h2 : ∃ w r, x = .tup (.str w :: r) ∧ w ≠ "read" ∧ w ≠ "write" := by
        rcases hc with ⟨w, a, c, rfl, h1, h2⟩ | ⟨w, a, b, c, rfl, h1, h2⟩
        · exact ⟨w, _, rfl, h1, h2⟩
        · exact ⟨w, _, rfl, h1, h2⟩
      obtain ⟨w, r, ex, h1, h2⟩ := h2
      rw [ex]
      bv_omega
      rw [← ex]
      refine afA_ok ha hxo p1 p2 gl gr ?_
      bv_omega
      exact ⟨⟨_, rfl⟩, rfl⟩
  · subst e eT
    rw [List.take_length]
    bv_omega
    refine kP_tup ?_ q
    show (nrs (List.map U.int _) && (nrs (List.map U.int _) && true)) = true
    rw [nrs_ints, nrs_ints]; rfl
def lafA : FxS :=
  fSeq (fPar2 4 5 (fCons (fCall gList (fCons (fVar 2) (fNil))) (fCons (fBin gIx (fVar 1) (fC (.int 1))) (fNil)))) (fSeq (fIf (fBl (fBin (gEq false) (fBin gIx (fVar 1) (fC (.int 0))) (fC (.str "set")))) (fAsg (fBin gIx (fVar 1) (fC (.int 2))) (gSubT (fVar 4) (fVar 5))) (fSkip)) (fSeq (fIf (fBl (fBin (gEq false) (fBin gIx (fVar 1) (fC (.int 0))) (fC (.str "copy")))) (fAsg (fBin gIx (fVar 2) (fBin gIx (fVar 1) (fC (.int 2)))) (gSubT (fVar 4) (fVar 5))) (fSkip)) (fSeq (fIf (fBl (fBin (gEq false) (fBin gIx (fVar 1) (fC (.int 0))) (fC (.str "add")))) (fAsg (fBin gMod (fBin gAdd (fBin gIx (fVar 2) (fVar 5)) (fBin gMul (fBin gIx (fVar 1) (fC (.int 3))) (fBin gIx (fVar 2) (fBin gIx (fVar 1) (fC (.int 2)))))) (fVar 0)) (gSubT (fVar 4) (fVar 5))) (fSkip)) (fSeq (fIf (fBl (fBin (gEq false) (fBin gIx (fVar 1) (fC (.int 0))) (fC (.str "scale")))) (fAsg (fBin gMod (fBin gMul (fBin gIx (fVar 2) (fVar 5)) (fBin gIx (fVar 1) (fC (.int 2)))) (fVar 0)) (gSubT (fVar 4) (fVar 5))) (fSkip)) (fSeq (fIf (fBl (fBin (gEq false) (fBin gIx (fVar 1) (fC (.int 0))) (fC (.str "swap")))) (fAsg (fTup (fCons (fBin gIx (fVar 2) (fBin gIx (fVar 1) (fC (.int 2)))) (fCons (fBin gIx (fVar 2) (fVar 5)) (fNil)))) (gUnp 2 (gCons (gSubT (fVar 4) (fVar 5)) (gCons (gSubT (fVar 4) (fBin gIx (fVar 1) (fC (.int 2)))) (gNil))))) (fSkip)) (fSeq (fIf (fBl (fBin (gEq false) (fBin gIx (fVar 1) (fC (.int 0))) (fC (.str "read")))) (fAsg (fVar 3) (gSubT (fVar 4) (fVar 5))) (fSkip)) (fRet (fCall gTuple (fCons (fVar 4) (fNil))))))))))
def lrnA (ex af : List U → M U) : FxS :=
  fSeq (fPar3 4 5 6 (fCons (fVar 2) (fCons (fLst (fNil)) (fCons (fC (.int 0)) (fNil))))) (fSeq (fFor (fIter (fCall (kdG .pur 1 ex) (fCons (fVar 1) (fNil)))) (gNm 7) (fSeq (fIf (fBl (fBin (gEq false) (fBin gIx (fVar 7) (fC (.int 0))) (fC (.str "write")))) (fDrop (fMeth isL gAppend (fVar 5) (fCons (fBin gIx (fVar 4) (fBin gIx (fVar 7) (fC (.int 1)))) (fNil)))) (fSkip)) (fSeq (fSet 4 (fCall (kdG .pur 4 af) (fCons (fVar 0) (fCons (fVar 7) (fCons (fVar 4) (fCons (fIfE (fBl (fBin (gEq false) (fBin gIx (fVar 7) (fC (.int 0))) (fC (.str "read")))) (fBin gIx (fVar 3) (fVar 6)) (fC (.int 0))) (fNil))))))) (fSet 6 (fBin gAdd (fVar 6) (fCall gInt (fCons (fBin (gEq false) (fBin gIx (fVar 7) (fC (.int 0))) (fC (.str "read"))) (fNil)))))))) (fRet (fTup (fCons (fVar 4) (fCons (fCall gTuple (fCons (fVar 5) (fNil))) (fNil))))))
theorem laf_ok {g : List U → M U} (hg : g = gDef 6 lafA) {p n : Int} {ws : List Str} {x : U} {rs : List Int} {v : Int} (hx : OpOk p n ws x) (hp : 2 ≤ p) (hp2 : p < 1000000) (hn : (rs.length : Int) = n) (hr : ∀ r ∈ rs, 0 ≤ r ∧ r < p) {T : Sto} {Q : U → Sto → Prop} (q : Q (.tup ((aft p x rs v).map .int)) T) :
    Wp (kdG .pur 4 g [.int p, x, .tup (rs.map .int), .int v] T) Q := by
  subst hg
  have rd : ∀ a : Int, 0 ≤ a → a < n → 0 ≤ rs.getD a.toNat 0 ∧ rs.getD a.toNat 0 < p := fun a h0 h1 => by
    have h : a.toNat < rs.length := by omega
    have e : rs.getD a.toNat 0 = rs[a.toNat] := by simp [h]
    rw [e]
    exact hr _ (List.getElem_mem h)
  have hnr : nr x = true := by
    rcases hx with ⟨w, a, c, rfl, _⟩ | ⟨w, a, rfl, _⟩ | ⟨a, b, c, rfl, _⟩ | ⟨w, a, b, rfl, _⟩ <;> rfl
  refine purK rfl ?_ (gDef_wp ?_)
  · show (true && (nr x && (nrs (rs.map .int) && true))) = true
    rw [hnr, nrs_ints]; rfl
  unfold lafA
  refine seq_wp (v_par2 (v_cons (v_call (v_cons (v_var rfl (v_nil (v_list (xs := rs.map .int) rfl ?_)))))))
  rcases hx with ⟨w, a, c, rfl, hw, a0, a1, c0, c1, _⟩ | ⟨w, a, rfl, hw, a0, a1, _⟩ | ⟨a, b, c, rfl, a0, a1, b0, b1, _, c0, c1, _⟩ | ⟨w, a, b, rfl, hw, a0, a1, b0, b1, _⟩
  · rcases hw with rfl | rfl
    · bv_omega
      refine ⟨_, setIt_regs rfl a0 (by omega), ?_⟩
      bv_omega
      exact q
    · have r0 := rd a a0 a1
      bv_omega
      refine v_ixT (atI_regs a0 (by omega)) ?_
      bv_omega
      refine ⟨_, setIt_regs rfl a0 (by omega), ?_⟩
      bv_omega
      exact q
  · rcases hw with rfl | rfl
    · bv_omega
      refine ⟨_, setIt_regs rfl a0 (by omega), ?_⟩
      bv_omega
      exact q
    · bv_omega
      exact q
  · have r0 := rd a a0 a1
    have r1 := rd b b0 b1
    bv_omega
    refine v_ixT (atI_regs a0 (by omega)) ?_
    bv_omega
    refine v_ixT (atI_regs b0 (by omega)) ?_
    bv_omega
    refine ⟨_, setIt_regs rfl a0 (by omega), ?_⟩
    bv_omega
    exact q
  · rcases hw with rfl | rfl
    · bv_omega
      refine v_ixT (atI_regs b0 (by omega)) ?_
      bv_omega
      refine ⟨_, setIt_regs rfl a0 (by omega), ?_⟩
      bv_omega
      exact q
    · bv_omega
      refine v_ixT (atI_regs b0 (by omega)) ?_
      bv_omega
      refine v_ixT (atI_regs a0 (by omega)) ?_
      bv_omega
      refine ⟨_, setIt_regs rfl a0 (by omega), ?_⟩
      bv_omega
      refine ⟨_, setIt_regs rfl b0 (by rw [List.length_set]; omega), ?_⟩
      bv_omega
      exact q
/-- the law's own run -/
theorem lrn_ok {g ex af : List U → M U} (hg : g = gDef 8 (lrnA ex af)) (ha : af = gDef 6 lafA) {xs l : List U} (hex : ∀ (T : Sto) (Q : U → Sto → Prop), Q (.ob T.length) (T ++ [.lst l]) → Wp (kdG .pur 1 ex [.tup xs] T) Q) (hnr : nrs xs = true) (hll : l.length ≤ 20000)
    {p n : Int} {ws : List Str} (p1 : 2 ≤ p) (p2 : p < 1000000) (hop : ∀ x ∈ l, OpOk p n ws x)
    {rs ins : List Int} (hn : (rs.length : Int) = n) (hr : InP p rs) (hi : InP p ins) (hil : cwt ["read"] (l) ≤ ins.length) (hil2 : ins.length ≤ 1000000) {T : Sto} {Q : U → Sto → Prop} (q : Q (.tup [.tup ((stF p (l) (rs, [], ins)).1.map .int), .tup ((stF p (l) (rs, [], ins)).2.1.map .int)]) T) :
    Wp (kdG .pur 4 g [.int p, .tup xs, .tup (rs.map .int), .tup (ins.map .int)] T) Q := by
  subst hg
  refine purK rfl ?_ (gDef_wp ?_)
  · show (true && (nrs xs && (nrs (rs.map .int) && (nrs (ins.map .int) && true)))) = true
    rw [hnr, nrs_ints, nrs_ints]; rfl
  unfold lrnA
  rfl'
  refine hex _ _ ?_
  refine v_iterO (xs := l) rfl ?_
  have g0 : GoodS p n (rs, [], ins) := ⟨hr, hn, fun _ h => (nomatch h), hi⟩
  refine wp_forL (fun i η T => (∃ o7, η = [some (.int p), some (.tup xs), some (.tup (rs.map .int)), some (.tup (ins.map .int)), some (.tup ((stF p (l.take i) (rs, [], ins)).1.map .int)), some (.ob 0), some (.int (cwt ["read"] (l.take i))), o7]) ∧ T = [.lst ((stF p (l.take i) (rs, [], ins)).2.1.map .int), .lst l]) ⟨⟨_, rfl⟩, rfl⟩ (fun i η T ⟨_, e⟩ => by subst e; rfl) (fun i x η T hx ⟨⟨o7, e⟩, eT⟩ => ?_) (fun η T ⟨⟨o7, e⟩, eT⟩ => ?_)
  · subst e eT
    have hxo := hop x (List.mem_of_getElem? hx)
    have hil' := (List.getElem?_eq_some_iff.mp hx).1
    have tk : l.take (i + 1) = l.take i ++ [x] := by rw [List.take_succ, hx]; rfl
    have gi := st_good p1 (l := l.take i) (s := (rs, [], ins)) (fun y hy => hop y (List.mem_of_mem_take hy)) g0
    have ci := st_cnt (l := l.take i) (s := (rs, [], ins)) (fun y hy => hop y (List.mem_of_mem_take hy)) (p := p)
    have cn := cwt_nn ["write"] (l.take i)
    have e1 : stF p (l.take (i + 1)) (rs, [], ins) = stepS p (stF p (l.take i) (rs, [], ins)) x := by rw [tk, stF_app]; rfl
    have cr : cwt ["read"] (l.take i) + wt ["read"] x ≤ ins.length := by
      have h1 : cwt ["read"] l = cwt ["read"] (l.take (i + 1)) + cwt ["read"] (l.drop (i + 1)) := by rw [← cwt_app, List.take_append_drop]
      have h2 := (cwt_nn ["read"] (l.drop (i + 1))).1
      have h3 : cwt ["read"] (l.take (i + 1)) = cwt ["read"] (l.take i) + wt ["read"] x := by rw [tk, cwt_app]; simp [cwt]
      omega
    have hk : cwt ["read"] (l.take (i + 1)) = cwt ["read"] (l.take i) + wt ["read"] x := by rw [tk, cwt_app]; simp [cwt]
    rw [e1, hk]
    have cr0 := (cwt_nn ["read"] (l.take i)).1
    generalize stF p (l.take i) (rs, [], ins) = s at *
    obtain ⟨s1, s2, s3⟩ := s
    obtain ⟨gr, gl, go, gi⟩ := gi
    simp only at gr gl go gi ci
    rcases hxo.cases with ⟨a, rfl, a0, a1⟩ | ⟨a, rfl, a0, a1⟩ | hc
    · rw [wt_w, if_pos rfl] at cr
      have hin : atI (ins.map U.int) (cwt ["read"] (l.take i)) = some (.int (s3.headD 0)) := by
        rw [atI_regs cr0 (by omega), ci.1, List.headD_eq_head?_getD, List.head?_drop, List.getD_eq_getElem?_getD]
      rw [step_rd, wt_w, if_pos rfl]
      try dsimp only
      bv_omega
      try refine v_ixT hin ?_
      bv_omega
      refine laf_ok ha hxo p1 p2 gl gr ?_
      have ea : aft p (.tup [.str "read", .int a]) s1 (s3.headD 0) = s1.set a.toNat (s3.headD 0) := by
        show (if Str.ofString "read" = Str.ofString "read" then s1.set a.toNat (s3.headD 0) else s1) = _
        rw [if_pos rfl]
      rw [ea]
      bv_omega
      exact ⟨⟨_, rfl⟩, rfl⟩
    · rw [step_wr, wt_w, if_neg (by decide +kernel)]
      try dsimp only
      bv_omega
      refine v_ixT (atI_regs a0 (by omega)) ?_
      bv_omega
      refine v_app rfl ⟨by rw [List.length_map]; have h9 := ci.2; simp at h9; rw [List.length_take] at cn; omega, ?_⟩
      bv_omega
      refine laf_ok ha hxo p1 p2 gl gr ?_
      have ea : aft p (.tup [.str "write", .int a]) s1 0 = s1 := by
        show (if Str.ofString "write" = Str.ofString "read" then s1.set a.toNat 0 else s1) = _
        rw [if_neg (by decide +kernel)]
      rw [ea]
      bv_omega
      exact ⟨⟨_, rfl⟩, by simp⟩
    · rw [step_cm hc]
      have h2 : ∃ w r, x = .tup (.str w :: r) ∧ w ≠ "read" ∧ w ≠ "write" := by
        rcases hc with ⟨w, a, c, rfl, h1, h2⟩ | ⟨w, a, b, c, rfl, h1, h2⟩
        · exact ⟨w, _, rfl, h1, h2⟩
        · exact ⟨w, _, rfl, h1, h2⟩
      obtain ⟨w, r, ex, h1, h2⟩ := h2
      rw [show wt ["read"] x = 0 from by rw [ex, wt_w, if_neg h1]]
      rw [ex]
      bv_omega
      rw [← ex]
      refine laf_ok ha hxo p1 p2 gl gr ?_
      bv_omega
      rw [ex]
      bv_omega
      rw [decide_eq_false h1]
      exact ⟨⟨_, rfl⟩, rfl⟩
  · subst e eT
    rw [List.take_length]
    bv_omega
    refine kP_tup ?_ q
    show (nrs (List.map U.int _) && (nrs (List.map U.int _) && true)) = true
    rw [nrs_ints, nrs_ints]; rfl
end Lf


set_option Elab.async false
set_option linter.all false
set_option maxRecDepth 100000
set_option maxHeartbeats 4000000
/-! ## stepping over exceptions -/
namespace Lf
open PySem PySem.Spec L2
theorem v_tryK {J : List Str} {i j : Nat} {Fb : FxE} {η : Lo} {T T1 : Sto} {e : Ex} {Q : Fl × Lo → Sto → Prop} (h : Fb η T = .ex e T1) (hJ : e.cls ∈ J) (q : Q (.nx, (η.set i none).set j (some (.ob T1.length))) (T1 ++ [.exc e.cls e.fs])) : Wp (fTryK J i j Fb η T) Q := by
  unfold fTryK
  rw [h]
  simp only [hJ, if_true]
  exact .ok q
theorem eq_of_wp {α : Type} {r : R α} {a : α} {T : Sto} (h : Wp r fun u T' => u = a ∧ T' = T) : r = .ok a T := by
  obtain ⟨u, T', e, rfl, rfl⟩ := h
  exact e
theorem v_isE {tab : List (Str × Bool)} {k : Nat} {C : Str} {fs : List (Str × U)} {p : Str × Bool} {T : Sto} {Q : U → Sto → Prop} (e : T[k]? = some (.exc C fs)) (h : tab.find? (fun p => decide (p.1 = C)) = some p) (q : Q (.bl p.2) T) : Wp (gIsE tab (.ob k) T) Q := by
  unfold gIsE
  simp only [e, h]
  exact .ok q
theorem v_xf {L : List Str} {f : Str} {k : Nat} {C : Str} {fs : List (Str × U)} {p : Str × U} {T : Sto} {Q : U → Sto → Prop} (e : T[k]? = some (.exc C fs)) (hC : C ∈ L) (h : fs.find? (fun p => decide (p.1 = f)) = some p) (q : Q p.2 T) : Wp (gXf L f (.ob k) T) Q := by
  unfold gXf
  simp only [e, hC, if_true, h]
  exact .ok q
end Lf


set_option Elab.async false
set_option linter.all false
set_option maxRecDepth 100000
set_option maxHeartbeats 4000000
/-! ## enumerate of a tuple -/
namespace Lf
open PySem PySem.Spec L2
open PyProof.Rows
theorem meets_enum1 {v : Value} {o : Obj} {H : Heap → Prop} (B : Begins v o H) :
    Meets (Builtin.«enumerate.__new__» ⟨[.type "enumerate", v], []⟩) (fun _ R s => H s.heap ∧ R (.ok (.ret (.ref (s.heap.push o).objs.size))) { s with heap := (s.heap.push o).push { cls := .type "enumerate", data := .fields #[.none, .bool false, .ref s.heap.objs.size, rawInt 0, .none, .none] } }) :=
  .of_wp fun prog w A R s ⟨h1, h⟩ => by
    obtain ⟨hp, g, d, tk, os⟩ := s
    have hsub := sub_enumerate
    have q1 : ∀ {A' : Around} {E : Value → Shared → Prop} {Q : Value → Shared → Prop}, Q (.ref hp.objs.size) ⟨hp.push o, g, d, tk, os⟩ → wpAny (model prog w) A' (pyIter v) Q E ⟨hp, g, d, tk, os⟩ := fun q => B.iter prog w _ _ ⟨hp, g, d, tk, os⟩ _ h1 q
    wp_walk using q1
    refine wpAny_stack_any fun st => wpAny_pure ?_
    split
    · rename_i c _ _ _ _ _
      cases (c == Value.type "enumerate") <;> (wp_walk using q1; exact ⟨_, rfl, h⟩)
    · wp_walk using q1
      exact ⟨_, rfl, h⟩
section
variable {prog : Program} {w : World} {A : Around} {E : Value → Shared → Prop} {s : Shared}
theorem enum_begins1 {v : Value} {o : Obj} {H : Heap → Prop} {Q : Value → Shared → Prop} (B : Begins v o H) (h1 : H s.heap)
    (h : ∀ h', IsEnum h' (s.heap.objs.size + 1) s.heap.objs.size 0 .none → h'.get? s.heap.objs.size = some o → (∀ b o, s.heap.get? b = some o → h'.get? b = some o) → Q (.ref (s.heap.objs.size + 1)) { s with heap := h' }) :
    wpAny (model prog w) A (call (.type "enumerate") [v]) Q E s := by
  refine callType_new F.called_enumerate (by decide) (F.typeCall_enumerate_1 _) (F.newCall_enumerate_1 _) (fun obj => F.args_object_init_2 obj _) F.entry_enumerate_new (meets_enum1 B) ⟨h1, ?_⟩
  have hz : (s.heap.push o).objs.size = s.heap.objs.size + 1 := Heap.size_push ..
  show _ ∧ _
  rw [hz]
  have he : IsEnum ((s.heap.push o).push { cls := .type "enumerate", data := .fields #[.none, .bool false, .ref s.heap.objs.size, rawInt 0, .none, .none] }) (s.heap.objs.size + 1) s.heap.objs.size 0 .none := by
    have e2 := Heap.get?_push_size (s.heap.push o) (o := { cls := .type "enumerate", data := .fields #[.none, .bool false, .ref s.heap.objs.size, rawInt 0, .none, .none] }) rfl
    rw [hz] at e2
    exact e2
  exact ⟨⟨_, he, rfl⟩, h _ he (Heap.get?_push_of_some _ (Heap.get?_push_size _ B.free)) fun b o x => Heap.get?_push_of_some _ (Heap.get?_push_of_some _ x)⟩
end
/-- what enumerate of the list or tuple at l yields -/
def Itn (K : PySem.W.Frag) (b : Bool) (l : Addr) : It :=
  ⟨fun i H => ∃ (xs : List V) (x : V), SqB b K H l xs ∧ xs[i]? = some x, fun i H v H' => ∃ (T : Addr) (x : V), v = .ref T ∧ H T = none ∧ H' = upd H T (.tup [.int (i : Nat), x]) ∧ ∀ xs, SqB b K H l xs → xs[i]? = some x, fun i H => ∃ xs : List V, SqB b K H l xs ∧ i = xs.length⟩
theorem turnN {P : Program} {w : World} {K : PySem.W.Frag} {elts : List Expr} {kk : Nat} {tpos : Pos} {b : Bool} {e it l : Addr} (n1 : l ≠ it) (n2 : l ≠ e) (n3 : e ≠ it) :
    Turn P w K (.Tuple elts kk tpos) (Itn K b l) [e, it] e (fun i h => (∃ old, IsEnum h e it ((i : Nat) : Int) old) ∧ ItB b h it l i) where
  mem := by simp
  obj := fun i h st c hc => by
    obtain ⟨⟨old, he⟩, h1⟩ := st
    have e' : c = e ∨ c = it := by simpa using hc
    rcases e' with q | q
    · rw [q]; exact ⟨_, he, fun v q => nomatch q⟩
    · rw [q]; exact h1.obj
  keep := fun i h h' st k => by
    obtain ⟨⟨old, he⟩, h1⟩ := st
    exact ⟨⟨old, k e (by simp) _ he⟩, h1.at fun o q => k it (by simp) o q⟩
  item := by
    intro X hP hw hK hc i pins s σ H E I hf st hg
    subst hP hw hK
    obtain ⟨⟨old, he⟩, h1⟩ := st
    obtain ⟨xs, x, q1, e1⟩ := hg
    obtain ⟨its, rv, p1, _⟩ := sqB I q1
    obtain ⟨u1, hu1, ru1⟩ := rv.get e1
    have hl1 : i < its.toArray.size := by have := (List.getElem?_eq_some_iff.mp hu1).1; simpa using this
    have hel : e < s.heap.objs.size := Heap.lt_size he
    have D := drawsB (prog := X.prog) (w := X.w) (A := X.A.in1) b (I.ok.hd hc) it l n1 its.toArray
    refine wpAny_pyNext_enum_itemD D he ⟨h1, p1⟩ hl1 n3 (by simp; exact ⟨n3, Ne.symm n2⟩) fun w1 h' tk f1 ho g1 hT hsz hk => ?_
    have ew1 : w1 = u1 := by
      have : its.toArray[i]? = some w1 := f1
      rw [List.getElem?_toArray, hu1] at this
      exact (Option.some.inj this).symm
    subst ew1
    refine ⟨_, rfl, wpAny_letOwnedTupleGo_enum (s := { s with heap := h', toks := tk + 1 }) ho fun h'' he' sb => ?_⟩
    have hT2 : h''.get? s.heap.objs.size = some { cls := .type "tuple", data := .seq #[.int i tk, w1] } := (sb.2 _ (Nat.ne_of_gt hel)).trans hT
    have new : ObjOk X.prog X.w (upd H s.heap.objs.size (.tup [.int (i : Nat), x])) h'' s.heap.objs.size (.tup [.int (i : Nat), x]) :=
      ⟨by show 2 ≤ sizeLine; decide, [.int i tk, w1], .cons ⟨_, rfl⟩ (.cons ru1 .nil), ⟨_, hT2, rfl, _, rfl⟩⟩
    have I1 : L2.Inv X pins σ (upd H s.heap.objs.size (.tup [.int (i : Nat), x])) { s with heap := h'', toks := tk + 1 } :=
      I.turnedNew (t' := tk + 1) (ch := [e, it]) (fun c o hb q => (sb.2 c (fun q' => hb (by simp [q']))).trans (hk c o (fun q' => hb (by simp [q'])) (fun q' => hb (by simp [q'])) q)) hf (Nat.le_refl _) new
    refine ⟨.ref s.heap.objs.size, _, I1, rfl, ⟨_, x, rfl, I.hok.fresh (Nat.le_refl _), rfl, fun ys hy => by rw [sqB_inj I hy q1]; exact e1⟩, ⟨⟨w1, ?_⟩, g1.1.at fun o q => (sb.2 it (Ne.symm n3)).trans q⟩, fun c hcm => ?_⟩
    · rw [Int.natCast_succ]
      exact he'
    · have hlt : c < s.heap.objs.size := by
        have e' : c = e ∨ c = it := by simpa using hcm
        rcases e' with q | q
        · rw [q]; exact hel
        · rw [q]; obtain ⟨_, e1, _⟩ := h1.obj; exact Heap.lt_size e1
      rw [upd_ne (Nat.ne_of_lt hlt)]
      exact (hf c hcm).1
  done := by
    intro X hP hw hK hc i pins s σ H E I hf st hg
    subst hP hw hK
    obtain ⟨⟨old, he⟩, h1⟩ := st
    obtain ⟨xs, q1, hi⟩ := hg
    obtain ⟨its, rv, p1, _⟩ := sqB I q1
    have hl1 : i = its.toArray.size := by rw [List.size_toArray, hi]; exact rv.length
    have D := drawsB (prog := X.prog) (w := X.w) (A := X.A.in1) b (I.ok.hd hc) it l n1 its.toArray
    rw [hl1] at h1
    obtain ⟨f0, f1, f2, f3, f4, f5⟩ := hf it (by simp)
    exact wpAny_pyNext_enum_endD D he ⟨h1, p1⟩ fun h' eb => ⟨rfl, I.turned (t' := s.toks) (fun c o hb q => eb c o hb q) f0 f1 f3 f4 f5⟩
  self := fun A i s Q E st h => let ⟨⟨_, he⟩, _⟩ := st; wpAny_pyIter_enum he h
def iEn (K : PySem.W.Frag) (b : Bool) (ta : TA) : TI := fun σ H R => ta σ H fun vs H1 => ∃ a xs, vs = [.ref a] ∧ SqB b K H1 a xs ∧ R (Itn K b a) H1
theorem pi_en {X : Cx} (b : Bool) {e : Expr} {ta : TA} {p pos tpos : Pos} {elts : List Expr} {kk : Nat} (hg : Gl X "enumerate") (hm : X.mg "enumerate" = none) (ha : PA X [e] ta) (hs : starEach [e] X.env = [(false, eval e X.env)] := by rfl) :
    PI X (.Tuple elts kk tpos) (.Call (.Name "enumerate" p) [e] [] pos) (iEn X.K b ta) := by
  refine ⟨fun pins s σ H R I h => ?_⟩
  refine PyProof.Rows.Call_ (ld_blt I hg hm PyProof.Rows.boot_enumerate (PyProof.Rows.callWith_type1 (thn (ha.run pos pins s σ H _ I h) fun us s1 ⟨vs, H1, I1, r1, q1⟩ => ?_) hs rfl))
  obtain ⟨a, xs, ex, hq, q⟩ := q1
  subst ex
  obtain ⟨w1, us1, rfl, rw1, rr1⟩ := vals_cons r1
  obtain rfl : w1 = .ref a := rw1
  obtain rfl := vals_nil rr1
  obtain ⟨its, rv, p1, lt1⟩ := sqB I1 hq
  refine enum_begins1 (beginsB b a its.toArray) p1 fun h' he h1 hk => wpAny_pyIter_enum he ?_
  have I2 : L2.Inv X pins σ H1 { s1 with heap := h' } := I1.kept (t' := s1.toks) hk
  refine ⟨s1.heap.objs.size + 1, [s1.heap.objs.size + 1, s1.heap.objs.size], _, _, H1, rfl, I2, turnN (b := b) (Nat.ne_of_lt lt1) (Nat.ne_of_lt (Nat.lt_succ_of_lt lt1)) (Nat.succ_ne_self _), ⟨⟨.none, he⟩, .new b h1⟩, fun c hcm => ?_, q⟩
  have hle : s1.heap.objs.size ≤ c := by
    simp only [List.mem_cons, List.not_mem_nil, or_false] at hcm
    rcases hcm with z | z
    · rw [z]; exact Nat.le_add_right _ _
    · rw [z]; exact Nat.le_refl _
  exact I1.fpOk hle (I1.hok.fresh hle)
def enl (xs : List U) : List U := (List.range xs.length).map fun i => .tup [.int (i : Nat), xs.getD i .non]
/-- enumerate of a tuple -/
def gEnT : List U → M ItF := fun us T => match us with
  | [.tup xs] => .ok (constI (enl xs)) T
  | _ => .no
def fEnT (Fr : FxA) : FxI := fun η T => (Fr η T).bind fun us T1 => gEnT us T1
theorem enl_get {xs : List U} {i : Nat} {u : U} (h : (enl xs)[i]? = some u) : ∃ x, xs[i]? = some x ∧ u = .tup [.int (i : Nat), x] := by
  unfold enl at h
  rw [List.getElem?_map] at h
  obtain ⟨j, q, rfl⟩ := Option.map_eq_some_iff.mp h
  have hi := (List.getElem?_eq_some_iff.mp q).1
  obtain rfl := range_at q
  rw [List.length_range] at hi
  exact ⟨xs[j], List.getElem?_eq_getElem hi, by simp [hi]⟩
theorem itOk_en {K : PySem.W.Frag} {ρ : List Addr} {H : Hp} {xs : List U} {vs : List V} {a : Addr} (q : SqT K H a vs) (rs : RVs K ρ H xs vs) : ItOk K ρ H (constI (enl xs)) (Itn K false a) := by
  have hl : (enl xs).length = xs.length := by simp [enl]
  constructor
  · intro i f ρ' H' T' u ef g s h
    have ef : ((enl xs).map fun (x : U) (_ : Sto) => some x)[i]? = some f := ef
    rw [List.getElem?_map] at ef
    obtain ⟨y, q2, rfl⟩ := Option.map_eq_some_iff.mp ef
    obtain ⟨x, h1, _⟩ := enl_get q2
    obtain ⟨v, h2, _⟩ := rs.get h1
    exact ⟨vs, v, g.sq _ _ q, h2⟩
  · intro i f ρ' H' T' u x0 H'' ef g s h y
    have ef : ((enl xs).map fun (x : U) (_ : Sto) => some x)[i]? = some f := ef
    rw [List.getElem?_map] at ef
    obtain ⟨z, q2, rfl⟩ := Option.map_eq_some_iff.mp ef
    cases h
    obtain ⟨x, h1, rfl⟩ := enl_get q2
    obtain ⟨v, h2, h3⟩ := rs.get h1
    obtain ⟨D, x1, rfl, nD, rfl, hy⟩ := y
    have := hy vs (g.sq _ _ q)
    rw [h2] at this
    cases this
    have g2 : Gr K ρ' H' ρ' (upd H' D (.tup [.int (i : Nat), v])) := Gr.fill nD
    exact ⟨g2, s.fill nD, .tup (SqT.of upd_same) ((RVs.cons (.int _) (.cons (h3.gr g) .nil)).gr g2)⟩
  · intro ρ' H' T' g s h
    refine ⟨vs, g.sq _ _ q, ?_⟩
    show (List.map _ (enl xs)).length = _
    rw [List.length_map, hl, rs.length]
theorem fi_enT {X : Cx} {E : XK} {e : Expr} {Fr : FxA} {p pos tpos : Pos} {elts : List Expr} {kk : Nat} (hg : Gl X "enumerate") (hm : X.mg "enumerate" = none) (ha : FA X E [e] Fr) (hs : starEach [e] X.env = [(false, eval e X.env)] := by rfl) :
    FI X E (.Tuple elts kk tpos) (.Call (.Name "enumerate" p) [e] [] pos) (fEnT Fr) := by
  obtain ⟨t, k, q⟩ := ha
  refine ⟨_, pi_en false hg hm k hs, fun σ H ρ T η R s r h => ?_⟩
  refine q σ H ρ T η _ s r (OK.mono (OK.bind h) fun vs H1 ⟨ρ1, T1, us, g1, s1, r1, k1⟩ => ?_)
  unfold gEnT at k1
  split at k1
  · rename_i xs
    match r1 with
    | .cons (.tup sq rs) .nil => exact ⟨_, _, rfl, sq, k1 _ _ _ Gr.refl s1 (itOk_en sq rs)⟩
  · exact False.elim k1
section
variable {T : Sto} {η : Lo} {Fr : FxA} {QI : ItF → Sto → Prop}
theorem v_enT (q : Wp (Fr η T) fun us T1 => Wp (gEnT us T1) QI) : Wp (fEnT Fr η T) QI := .bind q
theorem v_enTT {xs : List U} (q : QI (constI (enl xs)) T) : Wp (gEnT [.tup xs] T) QI := .ok q
end
end Lf


set_option Elab.async false
set_option linter.all false
set_option maxRecDepth 100000
set_option maxHeartbeats 4000000
/-! ## dicts: displays; repr of values that hold dicts -/
namespace Lf
open PySem PySem.Spec L2
/-! ### displays -/
def fDic0 : FxE := fun _ T => nw (.dic []) T
def fDic1 (k : Str) (Fv : FxE) : FxE := fun η T => (Fv η T).bind fun u T1 => nw (.dic [(.str k, u)]) T1
section
variable {X : Cx} {E : XK} {pos : Pos}
theorem fe_dic0 : FE X E (.Dict [] [] pos) fDic0 := by
  refine ⟨_, pe_dnewK, fun σ H ρ T η Q s re h => fun p n => ?_⟩
  exact h (ρ ++ [p]) _ (.ref p) (Gr.new n) (s.new n (.inl ⟨[], upd_same, .nil⟩)) (.ob (by rw [← s.len, List.getElem?_append_right (Nat.le_refl _), Nat.sub_self]; rfl))
theorem fe_dic1 {k : Str} {j : Nat} {kp : Pos} {e : Expr} {Fv : FxE} (hv : FE X E e Fv) : FE X E (.Dict [some (.Constant (.str k) j kp)] [e] pos) (fDic1 k Fv) := by
  obtain ⟨t, kk, q⟩ := hv
  refine ⟨_, pe_disp (pps_cons pe_str kk pps_nil) rfl rfl (by simp) (by simp), fun σ H ρ T η Q s re h => fun p n => ?_⟩
  have s0 : RS X.K ρ (upd H p (.dK [])) T := s.fill n
  have np : p ∉ ρ := fun m => by
    obtain ⟨y, hy, _⟩ := s.live m
    rw [n] at hy
    cases hy
  show t σ (upd H p (.dK [])) _
  refine q σ (upd H p (.dK [])) ρ T η _ s0 (re.gr (Gr.fill n)) (OK.mono (OK.bindG (h := h) (Gr.fill n)) fun x H2 ⟨ρ2, T2, u, g2, s2, r2, k2⟩ => ?_)
  obtain ⟨np2, hp2⟩ := g2.keepD np upd_same
  refine ⟨hp2, [(.inr k, x)], rfl, by simp, ?_⟩
  have g02 : Gr X.K ρ H ρ2 H2 := (Gr.fill n).trans g2
  have live : ∃ y, H2 p = some y ∧ Live y := ⟨_, hp2, trivial⟩
  have go : Gr X.K ρ H ρ2 (upd H2 p (.dK (mergeK [] [(Sum.inr k, x)]))) := Gr.over g02 n hp2 trivial
  have so : RS X.K ρ2 (upd H2 p (.dK (mergeK [] [(Sum.inr k, x)]))) T2 := s2.off np2 live
  have rx : RV X.K ρ2 (upd H2 p (.dK (mergeK [] [(Sum.inr k, x)]))) u x := r2.mono (fun _ _ e => e) (fun _ _ q => sq_upd (.inr live) q) (fun _ _ q => rf_upd (.inr live) q)
  have gn : Gr X.K ρ H (ρ2 ++ [p]) (upd H2 p (.dK (mergeK [] [(Sum.inr k, x)]))) :=
    ⟨fun i a e => by rw [List.getElem?_append_left (List.getElem?_eq_some_iff.mp (go.pre i a e)).1]; exact go.pre i a e, go.sq, go.rf, go.kp, fun a ha na => by
      rcases List.mem_append.mp ha with ha | ha
      · exact go.nw a ha na
      · rw [List.mem_singleton.mp ha]; exact n, go.xd⟩
  have mono : ∀ (i : Nat) (a : Addr), ρ2[i]? = some a → (ρ2 ++ [p])[i]? = some a := fun i a e => by rw [List.getElem?_append_left (List.getElem?_eq_some_iff.mp e).1]; exact e
  refine k2 (ρ2 ++ [p]) _ (.ref p) gn (so.adopt np2 (.inr trivial) (.inl ⟨_, upd_same, .cons ⟨rfl, rx.mono mono (fun _ _ q => q) fun _ _ q => q⟩ .nil⟩) fun _ _ q => q.more) (.ob (by rw [← s2.len, List.getElem?_append_right (Nat.le_refl _), Nat.sub_self]; rfl))
end
/-! ### repr -/
def keyD : Key → PyData
  | .inl i => .int i
  | .inr x => .str x
def Dq0 (v : V) (d : PyData) : Prop := (v = .non ∧ d = .none) ∨ (∃ b, v = .bl b ∧ d = .bool b) ∨ (∃ i, v = .int i ∧ d = .int i) ∨ ∃ x, v = .str x ∧ d = .str x
def DqN (K : PySem.W.Frag) (H : Hp) : Nat → V → PyData → Prop
  | 0 => Dq0
  | n + 1 => fun v d => Dq0 v d ∨ (∃ a xs ds, v = .ref a ∧ d = .list ds ∧ SqL K H a xs ∧ Paired (DqN K H n) xs ds) ∨ (∃ a xs ds, v = .ref a ∧ d = .tuple ds ∧ SqT K H a xs ∧ Paired (DqN K H n) xs ds) ∨
      ∃ (a : Addr) (ks : List (Key × V)) (kvs : List (PyData × PyData)), v = .ref a ∧ d = .dict kvs ∧ (H a = some (.dK ks) ∨ (ks = [] ∧ H a = some (.dT []))) ∧ Paired (fun (p : Key × V) (q : PyData × PyData) => q.1 = keyD p.1 ∧ DqN K H n p.2 q.2) ks kvs
theorem dqS {K : PySem.W.Frag} {H : Hp} {n : Nat} {v : V} {d : PyData} : DqN K H (n + 1) v d ↔ (Dq0 v d ∨ (∃ a xs ds, v = .ref a ∧ d = .list ds ∧ SqL K H a xs ∧ Paired (DqN K H n) xs ds) ∨ (∃ a xs ds, v = .ref a ∧ d = .tuple ds ∧ SqT K H a xs ∧ Paired (DqN K H n) xs ds) ∨
      ∃ (a : Addr) (ks : List (Key × V)) (kvs : List (PyData × PyData)), v = .ref a ∧ d = .dict kvs ∧ (H a = some (.dK ks) ∨ (ks = [] ∧ H a = some (.dT []))) ∧ Paired (fun (p : Key × V) (q : PyData × PyData) => q.1 = keyD p.1 ∧ DqN K H n p.2 q.2) ks kvs) := Iff.rfl
theorem Dq0.up {K : PySem.W.Frag} {H : Hp} {n : Nat} {v : V} {d : PyData} (h : Dq0 v d) : DqN K H n v d := by
  cases n with
  | zero => exact h
  | succ n => exact dqS.mpr (.inl h)
theorem Dq0.reads {h : Heap} {v : V} {d : PyData} {u : Value} (q : Dq0 v d) (r : RelV v u) : ∃ as, Reads h u d as ∧ sysModules ∉ as := by
  rcases q with ⟨rfl, rfl⟩ | ⟨b, rfl, rfl⟩ | ⟨i, rfl, rfl⟩ | ⟨x, rfl, rfl⟩
  · cases r; exact ⟨_, .none, by simp⟩
  · cases r; exact ⟨_, .bool b, by simp⟩
  · obtain ⟨t, rfl⟩ := r; exact ⟨_, .int i t, by simp⟩
  · obtain ⟨t, rfl⟩ := r; exact ⟨_, .str x t, by simp⟩
def sysB (K : PySem.W.Frag) : Bool := match K.lookup sysModules with
  | some o => o.cls == .type "dict"
  | none => false
theorem sysB_ok {K : PySem.W.Frag} (h : sysB K = true) : ∃ o, K.lookup sysModules = some o ∧ o.cls = .type "dict" := by
  unfold sysB at h
  split at h
  · rename_i o e
    exact ⟨o, e, beq_iff_eq.mp h⟩
  · cases h
section
variable {X : Cx} {pins : List (Addr × Obj)} {σ : L2.St} {H : Hp} {s : Shared}
theorem allN {n : Nat} (ih : ∀ v d u, DqN X.K H n v d → RelV v u → ∃ as, Reads s.heap u d as ∧ sysModules ∉ as) {vs : List V} {ds : List PyData} (h : Paired (DqN X.K H n) vs ds) : ∀ {us : List Value}, Vals vs us → ∃ as, ReadsAll s.heap us ds as ∧ sysModules ∉ as := by
  induction h with
  | nil => intro us r; cases r; exact ⟨_, .nil, by simp⟩
  | cons h1 h2 ih2 =>
    intro us r
    cases r with
    | cons r1 r2 =>
      obtain ⟨as, q1, z1⟩ := ih _ _ _ h1 r1
      obtain ⟨bs, q2, z2⟩ := ih2 r2
      exact ⟨_, .cons q1 q2, by simp [z1, z2]⟩
theorem kvN {n : Nat} (ih : ∀ v d u, DqN X.K H n v d → RelV v u → ∃ as, Reads s.heap u d as ∧ sysModules ∉ as) {ks : List (Key × V)} {kvs : List (PyData × PyData)} (h : Paired (fun (p : Key × V) (q : PyData × PyData) => q.1 = keyD p.1 ∧ DqN X.K H n p.2 q.2) ks kvs) :
    ∀ {rs : List (Key × Value)} {es : List DictEntry}, KV ks rs → Pairs (mixKind X.prog X.w) es rs →
      ∃ as bs, ReadsAll s.heap (es.map (·.key)) (kvs.map (·.1)) as ∧ ReadsAll s.heap (es.map (·.val)) (kvs.map (·.2)) bs ∧ sysModules ∉ as ∧ sysModules ∉ bs := by
  induction h with
  | nil =>
    intro rs es r p
    cases r
    cases p
    exact ⟨_, _, .nil, .nil, by simp, by simp⟩
  | @cons a b as bs h1 h2 ih2 =>
    intro rs es r p
    cases r with
    | @cons _ c _ cs r1 r2 =>
      cases p with
      | @cons e _ es _ p1 p2 p3 =>
        obtain ⟨a1, a2⟩ := a
        obtain ⟨b1, b2⟩ := b
        obtain ⟨c1, c2⟩ := c
        obtain ⟨e1, rv⟩ := r1
        obtain ⟨f1, f2⟩ := h1
        dsimp only at e1 rv f1 f2 p2
        subst e1 f1
        obtain ⟨as', q1, z1⟩ := ih _ _ _ f2 rv
        obtain ⟨bs', cs', w1, w2, w3, w4⟩ := ih2 r2 p3
        have hk : Reads s.heap e.key (keyD a1) [] := by
          rcases keyIs_shape p1 with ⟨i, t, rfl, e2⟩ | ⟨x, t, rfl, e2⟩
          · rw [e2]; exact .int i t
          · rw [e2]; exact .str x t
        exact ⟨_, _, .cons hk w1, .cons (by show Reads s.heap e.val b2 as'; rw [p2]; exact q1) w2, by simpa using w3, by simp [z1, w4]⟩
theorem DqN.reads (I : L2.Inv X pins σ H s) (hs : sysB X.K = true) : ∀ (n : Nat) (v : V) (d : PyData) (u : Value), DqN X.K H n v d → RelV v u → ∃ as, Reads s.heap u d as ∧ sysModules ∉ as := by
  intro n
  induction n with
  | zero => exact fun v d u h r => Dq0.reads h r
  | succ n ih =>
    intro v d u h r
    rcases dqS.mp h with h | ⟨a, xs, ds, rfl, rfl, hq, hp⟩ | ⟨a, xs, ds, rfl, rfl, hq, hp⟩ | ⟨a, ks, kvs, rfl, rfl, hq, hp⟩
    · exact h.reads r
    · cases r
      obtain ⟨its, rv, ⟨o, m, ho, hc, _, hd⟩, _⟩ := I.list hq
      obtain ⟨as, q1, z1⟩ := allN ih hp rv
      refine ⟨_, .list ho hc hd q1, fun hm => ?_⟩
      rcases List.mem_cons.mp hm with e | hm
      · obtain ⟨o2, e2, c2⟩ := sysB_ok hs
        have e3 := I.kIn _ _ e2
        rw [e] at e3
        rw [ho] at e3
        cases e3
        rw [hc] at c2
        simp at c2
      · exact z1 hm
    · cases r
      obtain ⟨its, rv, ⟨o, ho, hc, m, hd⟩, _⟩ := I.tuple hq
      obtain ⟨as, q1, z1⟩ := allN ih hp rv
      exact ⟨_, .tuple ho hc hd q1, z1⟩
    · cases r
      rcases hq with hq | ⟨rfl, hq⟩
      rotate_left
      · obtain ⟨_, hne, xs, hp2, o, es, ep, ho, ⟨hc, _, _⟩, hd, he, _⟩ := (show ObjOk X.prog X.w H s.heap a (.dT []) from I.hok a _ hq)
        cases hp2
        cases hp
        rw [List.map_nil] at he
        exact ⟨_, .dict (as := []) (bs := []) ho hc hd (by rw [he]; exact .nil) (by rw [he]; exact .nil), fun hm => by
          rcases List.mem_cons.mp hm with e | hm
          · rw [← e] at hne
            simp at hne
          · cases hm⟩
      obtain ⟨_, hne, rs, rk, o, es, ep, ho, ⟨hc, _, _⟩, hd, _, hpr, _⟩ := (show ObjOk X.prog X.w H s.heap a (.dK ks) from I.hok a _ hq)
      obtain ⟨as, bs, q1, q2, z1, z2⟩ := kvN ih hp rk hpr
      refine ⟨_, .dict ho hc hd q1 q2, fun hm => ?_⟩
      rcases List.mem_append.mp hm with hm | hm
      · rcases List.mem_cons.mp hm with e | hm
        · rw [← e] at hne
          simp at hne
        · exact z1 hm
      · exact z2 hm
def rReprD (K : PySem.W.Frag) : List V → Hp → VK → Prop := fun xs H Q => ∃ (a : Addr) (n : Nat) (d : PyData), xs = [.ref a] ∧ DqN K H n (.ref a) d ∧ d.showable = true ∧ d.depth ≤ 64 ∧ d.shown.length ≤ sizeLine ∧ Q (.str d.shown) H
theorem call_reprD (hs : sysB X.K = true) (gd : X.A.guards = some []) (hu : X.A.units + 66 < cLine) : CallR X (.builtin "repr") (rReprD X.K) := by
  intro pins s σ H xs us Q I r h
  obtain ⟨a, n, d, rfl, hd, h1, h2, h3, q⟩ := h
  obtain ⟨u, rfl, rfl⟩ := vals1 r
  obtain ⟨as, rd, na⟩ := DqN.reads I hs n _ _ _ hd rfl
  exact PySem.repr_of_reads' rd h1 (fun _ => na) gd (by omega) (fun b o e => e) (fun h' u tk hk => ⟨.str _, H, I.kept hk, ⟨_, rfl⟩, q⟩) h3
end
def keysD : List (U × U) → Option (List PyData)
  | [] => some []
  | (.int i, _) :: r => (keysD r).map (PyData.int i :: ·)
  | (.str x, _) :: r => (keysD r).map (PyData.str x :: ·)
  | _ :: _ => none
def datD (T : Sto) : Nat → U → Option PyData
  | _, .non => some .none
  | _, .bl b => some (.bool b)
  | _, .int i => some (.int i)
  | _, .str x => some (.str x)
  | n + 1, .tup xs => (dats (datD T n) xs).map .tuple
  | n + 1, .ob i => match T[i]? with
    | some (.lst xs) => (dats (datD T n) xs).map .list
    | some (.dic kvs) => match keysD kvs, dats (datD T n) (kvs.map (·.2)) with
      | some ks, some vs => some (.dict (ks.zip vs))
      | _, _ => none
    | _ => none
  | _, _ => none
theorem datsD_ok {K : PySem.W.Frag} {ρ : List Addr} {H : Hp} {n : Nat} {f : U → Option PyData} (ih : ∀ u v d, RV K ρ H u v → f u = some d → DqN K H n v d) : ∀ {us : List U} {vs : List V} {ds : List PyData}, RVs K ρ H us vs → dats f us = some ds → Paired (DqN K H n) vs ds
  | [], _, ds, .nil, e => by cases e; exact .nil
  | u :: us, _, ds, .cons r rs, e => by
    unfold dats at e
    split at e
    · rename_i d ds' e1 e2
      cases e
      exact .cons (ih _ _ _ r e1) (datsD_ok ih rs e2)
    · cases e
theorem kvD_ok {K : PySem.W.Frag} {ρ : List Addr} {H : Hp} {n : Nat} {f : U → Option PyData} (ih : ∀ u v d, RV K ρ H u v → f u = some d → DqN K H n v d) {kvs : List (U × U)} {ks : List (Key × V)} (h : Paired (fun (p : U × U) (q : Key × V) => p.1 = kU q.1 ∧ RV K ρ H p.2 q.2) kvs ks) :
    ∀ {as bs : List PyData}, keysD kvs = some as → dats f (kvs.map (·.2)) = some bs → Paired (fun (p : Key × V) (q : PyData × PyData) => q.1 = keyD p.1 ∧ DqN K H n p.2 q.2) ks (as.zip bs) := by
  induction h with
  | nil => intro as bs e1 e2; cases e1; cases e2; exact .nil
  | @cons p q ps qs h1 h2 ih2 =>
    intro as bs e1 e2
    obtain ⟨p1, p2⟩ := p
    obtain ⟨q1, q2⟩ := q
    obtain ⟨f1, f2⟩ := h1
    dsimp only at f1 f2
    subst f1
    rw [List.map_cons] at e2
    unfold dats at e2
    split at e2
    · rename_i d ds e3 e4
      cases e2
      cases q1 with
      | inl i =>
        obtain ⟨as', e5, rfl⟩ := Option.map_eq_some_iff.mp (show (keysD ps).map (PyData.int i :: ·) = some as from e1)
        exact .cons ⟨rfl, ih _ _ _ f2 e3⟩ (ih2 e5 e4)
      | inr x =>
        obtain ⟨as', e5, rfl⟩ := Option.map_eq_some_iff.mp (show (keysD ps).map (PyData.str x :: ·) = some as from e1)
        exact .cons ⟨rfl, ih _ _ _ f2 e3⟩ (ih2 e5 e4)
    · cases e2
theorem datD_ok {K : PySem.W.Frag} {ρ : List Addr} {H : Hp} {T : Sto} (s : RS K ρ H T) : ∀ (n : Nat) (u : U) (v : V) (d : PyData), RV K ρ H u v → datD T n u = some d → DqN K H n v d := by
  intro n
  have base : ∀ (n : Nat) (u : U) (v : V) (d : PyData), RV K ρ H u v → (∀ xs, u ≠ .tup xs) → (∀ i, u ≠ .ob i) → datD T n u = some d → DqN K H n v d := fun n u v d r n1 n2 e => by
    cases r with
    | non => cases n <;> (cases e; exact Dq0.up (.inl ⟨rfl, rfl⟩))
    | bl b => cases n <;> (cases e; exact Dq0.up (.inr (.inl ⟨b, rfl, rfl⟩)))
    | int i => cases n <;> (cases e; exact Dq0.up (.inr (.inr (.inl ⟨i, rfl, rfl⟩))))
    | str x => cases n <;> (cases e; exact Dq0.up (.inr (.inr (.inr ⟨x, rfl, rfl⟩))))
    | tup _ _ => exact absurd rfl (n1 _)
    | ob _ => exact absurd rfl (n2 _)
    | scr _ => cases n <;> cases e
    | raw _ => cases n <;> cases e
  induction n with
  | zero =>
    intro u v d r e
    refine base 0 u v d r (fun xs z => ?_) (fun i z => ?_) e
    · subst z; cases e
    · subst z; cases e
  | succ n ih =>
    intro u v d r e
    cases id r with
    | @tup a vs us q rs =>
      obtain ⟨ds, e1, rfl⟩ := Option.map_eq_some_iff.mp (show (dats (datD T n) us).map PyData.tuple = some d from e)
      exact .inr (.inr (.inl ⟨_, _, ds, rfl, rfl, q, datsD_ok ih rs e1⟩))
    | ob ea =>
      rename_i i a
      have e : (match T[i]? with
        | some (.lst xs) => (dats (datD T n) xs).map PyData.list
        | some (.dic kvs) => match keysD kvs, dats (datD T n) (kvs.map (·.2)) with
          | some ks, some vs => some (.dict (ks.zip vs))
          | _, _ => none
        | _ => none) = some d := e
      split at e
      · rename_i xs ex
        obtain ⟨ds, e1, rfl⟩ := Option.map_eq_some_iff.mp e
        obtain ⟨b, p, vs, f1, rs⟩ := s.get ex
        rw [ea] at p
        cases p
        exact .inr (.inl ⟨_, _, ds, rfl, rfl, SqL.of f1, datsD_ok ih rs e1⟩)
      · rename_i kvs ex
        split at e
        · rename_i as bs e1 e2
          cases e
          obtain ⟨b, p, ro⟩ := s.get ex
          rw [ea] at p
          cases p
          rcases ro with ⟨ks, f1, hp⟩ | ⟨ks, f1, hp⟩
          · exact .inr (.inr (.inr ⟨_, ks, _, rfl, rfl, .inl f1, kvD_ok ih hp e1 e2⟩))
          · cases hp with
            | nil =>
              cases e1
              exact .inr (.inr (.inr ⟨_, [], _, rfl, rfl, .inr ⟨rfl, f1⟩, .nil⟩))
            | @cons p _ ps _ h1 _ =>
              obtain ⟨p1, p2⟩ := p
              obtain ⟨h1, _⟩ := h1
              dsimp only at h1
              subst h1
              cases e1
        · cases e
      · cases e
    | non => exact base _ _ _ _ r (fun _ z => nomatch z) (fun _ z => nomatch z) e
    | bl b => exact base _ _ _ _ r (fun _ z => nomatch z) (fun _ z => nomatch z) e
    | int i => exact base _ _ _ _ r (fun _ z => nomatch z) (fun _ z => nomatch z) e
    | str x => exact base _ _ _ _ r (fun _ z => nomatch z) (fun _ z => nomatch z) e
    | scr _ => exact base _ _ _ _ r (fun _ z => nomatch z) (fun _ z => nomatch z) e
    | raw _ => exact base _ _ _ _ r (fun _ z => nomatch z) (fun _ z => nomatch z) e
/-- repr of what holds objects, dicts among them -/
def gReprD : List U → M U := fun us T => match us with
  | [.tup xs] => match datD T 66 (.tup xs) with
    | some d => if d.showable = true ∧ d.depth ≤ 64 ∧ d.shown.length ≤ 16777216 then .ok (.str d.shown) T else .no
    | none => .no
  | [.ob k] => match datD T 66 (.ob k) with
    | some d => if d.showable = true ∧ d.depth ≤ 64 ∧ d.shown.length ≤ 16777216 then .ok (.str d.shown) T else .no
    | none => .no
  | us => gRepr us T
section
variable {X : Cx} {E : XK}
theorem fcl_reprD (hs : sysB X.K = true) (gd : X.A.guards = some []) (hu : X.A.units + 66 < cLine) : FCall X E (.builtin "repr") gReprD := by
  obtain ⟨r, h1, h2⟩ := fcl_repr (X := X) (E := E) gd hu
  refine ⟨fun xs H Q => r xs H Q ∨ rReprD X.K xs H Q, fun pins s σ H xs us Q I rv h => ?_, fun ρ H T us xs Q s rv h => ?_⟩
  · rcases h with h | h
    · exact h1 pins s σ H xs us Q I rv h
    · exact call_reprD hs gd hu pins s σ H xs us Q I rv h
  · unfold gReprD at h
    split at h
    · rename_i ys
      split at h
      · rename_i d e
        split at h
        · rename_i hc
          match rv with
          | .cons rv1 .nil =>
            cases id rv1 with
            | tup q rs => exact .inr ⟨_, 66, d, rfl, datD_ok s _ _ _ _ rv1 e, hc.1, hc.2.1, by rw [sizeLine_eq]; exact hc.2.2, okV s h (.str _)⟩
        · exact False.elim h
      · exact False.elim h
    · rename_i k
      split at h
      · rename_i d e
        split at h
        · rename_i hc
          match rv with
          | .cons rv1 .nil =>
            cases id rv1 with
            | ob ea => exact .inr ⟨_, 66, d, rfl, datD_ok s _ _ _ _ rv1 e, hc.1, hc.2.1, by rw [sizeLine_eq]; exact hc.2.2, okV s h (.str _)⟩
        · exact False.elim h
      · exact False.elim h
    · exact .inl (h2 ρ H T us xs Q s rv h)
end
theorem v_reprO {T : Sto} {k : Nat} {d : PyData} {Q : U → Sto → Prop} (e : datD T 66 (.ob k) = some d) (h : d.showable = true ∧ d.depth ≤ 64 ∧ d.shown.length ≤ 16777216) (q : Q (.str d.shown) T) : Wp (gReprD [.ob k] T) Q := by
  unfold gReprD
  simp only [e]
  rw [if_pos h]
  exact .ok q
theorem v_reprT {T : Sto} {xs : List U} {d : PyData} {Q : U → Sto → Prop} (e : datD T 66 (.tup xs) = some d) (h : d.showable = true ∧ d.depth ≤ 64 ∧ d.shown.length ≤ 16777216) (q : Q (.str d.shown) T) : Wp (gReprD [.tup xs] T) Q := by
  unfold gReprD
  simp only [e]
  rw [if_pos h]
  exact .ok q
/-! ### the head with the statics and the table of modules among what is read -/
def obsS (n : Nat) (fa : List He.Fa) (fn : List He.DefD) (fx : PySem.W.Frag → Bool) (g : Addr → Option Obj) : Bool × He.AlD :=
  (fx (He.frG g (sysModules :: cStatics :: He.asD g n)), He.obsD fa fn (He.frG g (sysModules :: cStatics :: He.asD g n)))
def hookS (n : Nat) (fa : List He.Fa) (fn : List He.DefD) (fx : PySem.W.Frag → Bool) : PySem.W.Hook where
  α := Bool × He.AlD
  obs := fun s => obsS n fa fn fx s.heap.get?
  val := fun _ => (true, He.valD fn)
  says := fun _ h => ∃ K : PySem.W.Frag, K.In h ∧ SaysF fa fn fx K
  of := fun _ _ e => ⟨_, He.frG_in, congrArg (fun z : Bool × He.AlD => z.2) e, congrArg (fun z : Bool × He.AlD => z.1) e⟩
  keeps := fun _ _ _ ⟨K, hK, c⟩ k => ⟨K, PySem.W.Frag.In.keeps hK k, c⟩
theorem obsS_eq {n : Nat} {fa : List He.Fa} {fn : List He.DefD} {fx : PySem.W.Frag → Bool} {g : Addr → Option Obj} {s : Shared} (h : ∀ a, g a = s.heap.get? a) : obsS n fa fn fx g = (hookS n fa fn fx).obs s := by
  rw [funext h] <;> rfl
end Lf


set_option Elab.async false
set_option linter.all false
set_option maxRecDepth 100000
set_option maxHeartbeats 4000000
/-! ## locate with its refusal; the paths of all steps -/
namespace Lf
open PySem PySem.Spec L2
/-! values without objects -/
mutual
def pu : U → Bool
  | .tup xs => pus xs
  | .ob _ => false
  | .scr _ => false
  | .raw _ => false
  | _ => true
def pus : List U → Bool
  | [] => true
  | x :: xs => pu x && pus xs
end
theorem pus_ints : ∀ ns : List Int, pus (ns.map U.int) = true
  | [] => rfl
  | n :: ns => by rw [List.map_cons]; show (true && pus (ns.map U.int)) = true; rw [pus_ints ns]; rfl
theorem pu_op {x : U} (h : Op x) : pu x = true := by
  obtain ⟨w, is, rfl, _⟩ := h
  show (true && pus (is.map .int)) = true
  rw [pus_ints]; rfl
theorem datD_pu {T : Sto} : ∀ (n : Nat) (u : U) (d : PyData), pu u = true → dat T n u = some d → datD T n u = some d := by
  intro n
  induction n with
  | zero =>
    intro u d h e
    cases u with
    | non => exact e
    | bl b => exact e
    | int i => exact e
    | str x => exact e
    | tup xs => cases e
    | ob i => cases h
    | scr ns => cases h
    | raw v => cases h
  | succ n ih =>
    have all : ∀ (xs : List U) (ds : List PyData), pus xs = true → dats (dat T n) xs = some ds → dats (datD T n) xs = some ds := by
      intro xs
      induction xs with
      | nil => intro ds _ e; exact e
      | cons x xs ihx =>
        intro ds h e
        obtain ⟨h1, h2⟩ := Bool.and_eq_true_iff.mp (show (pu x && pus xs) = true from h)
        unfold dats at e
        split at e
        · rename_i d ds' e1 e2
          cases e
          unfold dats
          rw [ih x d h1 e1, ihx ds' h2 e2]
        · cases e
    intro u d h e
    cases u with
    | non => exact e
    | bl b => exact e
    | int i => exact e
    | str x => exact e
    | tup xs =>
      obtain ⟨ds, e1, rfl⟩ := Option.map_eq_some_iff.mp (show (dats (dat T n) xs).map PyData.tuple = some d from e)
      show (dats (datD T n) xs).map PyData.tuple = _
      rw [all xs ds h e1]; rfl
    | ob i => cases h
    | scr ns => cases h
    | raw v => cases h
theorem v_reprP {xs : List U} {T : Sto} {Q : U → Sto → Prop} (hp : pus xs = true) (h : Wp (gRepr [.tup xs] T) Q) : Wp (gReprD [.tup xs] T) Q := by
  unfold gRepr at h
  unfold gReprD
  simp only at h ⊢
  split at h
  · rename_i d e
    rw [datD_pu 66 (.tup xs) d hp e]
    simp only
    split at h
    · rename_i hc
      rw [if_pos ⟨hc.1, (shaped_at hc.2.1).2, hc.2.2⟩]
      exact h
    · simp at h
  · simp at h
theorem v_isiG {u : U} {n m : String} {b : Bool} {T : Sto} {Q : U → Sto → Prop} (ht : tyU T u = some n) (hn : kitB n m = some b) (q : Q (.bl b) T) : Wp (gIsi [u, .raw (.ty m)] T) Q := by
  unfold gIsi
  simp only [ht, hn]
  exact .ok q
/-! ### is_within, over the whole store -/
section
variable {T : Sto} {Q : U → Sto → Prop} {g : List U → M U} {lo hi : Int}
local macro_rules | `(tactic| rfl') => `(tactic| repeat (first | with_reducible refine Lf.kS_nx ?_ | with_reducible refine Lf.kS_rt ?_ | with_reducible refine Lf.kS_bk ?_ | with_reducible refine Lf.kS_ct ?_ | with_reducible refine Lf.kD_rt ?_ | with_reducible refine Lf.kD_nx ?_ | with_reducible refine Lf.kF_nx ?_ | with_reducible refine Lf.kF_ct ?_ | with_reducible refine Lf.kF_bk ?_ | with_reducible refine Lf.kF_rt ?_ | with_reducible refine Lf.v_ifT ?_ | with_reducible refine Lf.v_ifF ?_ | with_reducible refine Lf.v_ifNT ?_ | with_reducible refine Lf.v_ifNF ?_ | with_reducible refine Lf.kP_int ?_ | with_reducible refine Lf.kP_bl ?_ | with_reducible refine Lf.kP_str ?_ | with_reducible refine Lf.kP_non ?_ | with_reducible refine Lf.v_iadd ?_ | with_reducible refine Lf.Wp.ok ?_ | with_reducible refine Lf.seq_wp ?_ | with_reducible refine Lf.v_bin ?_ | with_reducible refine Lf.v_cons ?_ | with_reducible refine Lf.v_call ?_ | with_reducible refine Lf.v_ret ?_ | with_reducible refine Lf.v_set ?_ | with_reducible refine Lf.v_asg ?_ | with_reducible refine Lf.v_if ?_ | with_reducible refine Lf.v_ifE ?_ | with_reducible refine Lf.v_bl ?_ | with_reducible refine Lf.v_tru ?_ | with_reducible refine Lf.v_and ?_ | with_reducible refine Lf.v_or ?_ | with_reducible refine Lf.v_not ?_ | with_reducible refine Lf.v_andV ?_ | with_reducible refine Lf.v_orV ?_ | with_reducible refine Lf.v_notV ?_ | with_reducible refine Lf.v_c ?_ | with_reducible refine Lf.v_nil ?_ | with_reducible refine Lf.v_skip ?_ | with_reducible refine Lf.v_drop ?_ | with_reducible refine Lf.v_retN ?_ | with_reducible refine Lf.v_brk ?_ | with_reducible refine Lf.v_cnt ?_ | with_reducible refine Lf.v_nm ?_ | with_reducible refine Lf.v_gnil ?_ | with_reducible refine Lf.v_gcons ?_ | with_reducible refine Lf.v_yes ?_ | with_reducible refine Lf.v_for ?_ | with_reducible refine Lf.v_lc ?_ | with_reducible refine Lf.v_rg ?_ | with_reducible refine Lf.v_iter ?_ | with_reducible refine Lf.v_iterT ?_ | with_reducible refine Lf.v_add ?_ | with_reducible refine Lf.v_sub ?_ | with_reducible refine Lf.v_neg ?_ | with_reducible refine Lf.v_lt ?_ | with_reducible refine Lf.v_le ?_ | with_reducible refine Lf.v_gt ?_ | with_reducible refine Lf.v_ge ?_ | with_reducible refine Lf.v_eqI ?_ | with_reducible refine Lf.v_neI ?_ | with_reducible refine Lf.v_abs ?_ | with_reducible refine Lf.v_intI ?_ | with_reducible refine Lf.v_intB ?_ | with_reducible refine Lf.v_max2 ?_ | with_reducible refine Lf.v_min2 ?_ | with_reducible refine Lf.v_lenT ?_ | with_reducible refine Lf.v_lenN ?_ | with_reducible refine Lf.v_nw ?_ | with_reducible refine Lf.v_un ?_ | with_reducible refine Lf.v_tup ?_ | with_reducible refine Lf.v_lst ?_ | with_reducible refine Lf.v_par2 ?_ | with_reducible refine Lf.v_par3 ?_ | with_reducible refine Lf.v_chain ?_ | with_reducible refine Lf.v_meth ?_ | with_reducible refine Lf.v_subT ?_ | with_reducible refine Lf.v_isiIB ?_ | with_reducible refine Lf.v_isiII ?_ | with_reducible refine Lf.v_sl ?_ | with_reducible refine Lf.v_noP ?_ | with_reducible refine Lf.v_pt ?_ | with_reducible refine Lf.v_cutT ?_ | ((with_reducible apply Lf.v_var); exact rfl) | ((with_reducible refine Lf.v_kw ?_ ?_); exact rfl) | ((with_reducible apply Lf.v_iterO); first | exact rfl | assumption) | ((with_reducible apply Lf.v_lenL); first | exact rfl | assumption) | ((with_reducible refine Lf.v_unp ?_ ?_); exact rfl) | ((with_reducible apply Lf.v_aug); exact rfl) | ((with_reducible refine Lf.v_mod ?_ ?_); first | decide | omega | assumption | fail) | ((with_reducible refine Lf.v_div ?_ ?_); first | exact ⟨by decide, by decide +kernel⟩ | assumption | exact Lf.log2d (by omega) ⟨by omega, by omega⟩ | fail) | ((with_reducible refine Lf.v_mul ?_ ?_); first | exact Lf.log2m ⟨by omega, by omega⟩ ⟨by omega, by omega⟩ | exact Lf.log2m (by assumption) ⟨by omega, by omega⟩ | exact Lf.log2m ⟨by omega, by omega⟩ (by assumption) | fail) | ((with_reducible refine Lf.v_pow ?_ ?_); exact ⟨by decide, by decide, by decide⟩) | ((with_reducible refine Lf.v_rg1 ?_ ?_); first | decide | fail) | ((with_reducible apply Lf.v_ixL); (first | exact rfl | assumption | fail); (first | exact rfl | assumption | fail)) | ((with_reducible apply Lf.v_ixT); (first | exact rfl | assumption | fail)) | ((with_reducible apply Lf.v_ixN); (first | exact rfl | assumption | fail)) | with_reducible refine ⟨_, rfl, ?_⟩ | (refine ⟨_, (rfl : Lf.tru _ (Lf.U.bl _) = some _), ?_⟩) | with_reducible refine ⟨_, _, rfl, ?_⟩ | with_reducible refine ⟨_, _, _, rfl, ?_⟩ | (refine ⟨(Nat.le_of_ble_eq_true rfl : List.length _ ≤ 16777216), ?_⟩) | with_reducible refine Lf.v_enum ?_ | fail))
theorem iwL_ok (hg : g = gDef 3 iwA) {v : Int} (h1 : lo ≤ v) (h2 : v ≤ hi) (q : Q (.bl true) T) : Wp (kdG .len 3 g [.int v, .int lo, .int hi] T) Q := by
  subst hg
  refine len_wp rfl (gDef_wp ?_)
  unfold iwA
  rfl'
  refine v_yesd h1 ?_
  rfl'
  rw [decide_eq_true h2]
  exact q
theorem iwL_out (hg : g = gDef 3 iwA) {v : Int} (h : v < lo ∨ hi < v) (q : Q (.bl false) T) : Wp (kdG .len 3 g [.int v, .int lo, .int hi] T) Q := by
  subst hg
  refine len_wp rfl (gDef_wp ?_)
  unfold iwA
  rfl'
  refine v_ifd (fun h1 => ?_) (fun h1 => ?_)
  · rfl'
    rw [decide_eq_false (by omega)]
    exact q
  · rfl'
    exact q
theorem iwL_bl (hg : g = gDef 3 iwA) {b : Bool} (q : Q (.bl false) T) : Wp (kdG .len 3 g [.bl b, .int lo, .int hi] T) Q := by
  subst hg
  refine len_wp rfl (gDef_wp ?_)
  unfold iwA
  rfl'
  refine v_isiG (n := "bool") (b := true) rfl rfl ?_
  rfl'
  refine v_isiG (n := "bool") (b := true) rfl rfl ?_
  rfl'
  exact q
theorem iwL_no (hg : g = gDef 3 iwA) {u : U} {n : String} (ht : tyU T u = some n) (hn : kitB n "int" = some false) (q : Q (.bl false) T) : Wp (kdG .len 3 g [u, .int lo, .int hi] T) Q := by
  subst hg
  refine len_wp rfl (gDef_wp ?_)
  unfold iwA
  rfl'
  refine v_isiG ht hn ?_
  rfl'
  exact q
end
local macro_rules | `(tactic| rfl') => `(tactic| repeat (first | with_reducible refine Lf.kS_nx ?_ | with_reducible refine Lf.kS_rt ?_ | with_reducible refine Lf.kS_bk ?_ | with_reducible refine Lf.kS_ct ?_ | with_reducible refine Lf.kD_rt ?_ | with_reducible refine Lf.kD_nx ?_ | with_reducible refine Lf.kF_nx ?_ | with_reducible refine Lf.kF_ct ?_ | with_reducible refine Lf.kF_bk ?_ | with_reducible refine Lf.kF_rt ?_ | with_reducible refine Lf.v_ifT ?_ | with_reducible refine Lf.v_ifF ?_ | with_reducible refine Lf.v_ifNT ?_ | with_reducible refine Lf.v_ifNF ?_ | with_reducible refine Lf.kP_int ?_ | with_reducible refine Lf.kP_bl ?_ | with_reducible refine Lf.kP_str ?_ | with_reducible refine Lf.kP_non ?_ | with_reducible refine Lf.v_iadd ?_ | with_reducible refine Lf.Wp.ok ?_ | with_reducible refine Lf.seq_wp ?_ | with_reducible refine Lf.v_bin ?_ | with_reducible refine Lf.v_cons ?_ | with_reducible refine Lf.v_call ?_ | with_reducible refine Lf.v_ret ?_ | with_reducible refine Lf.v_set ?_ | with_reducible refine Lf.v_asg ?_ | with_reducible refine Lf.v_if ?_ | with_reducible refine Lf.v_ifE ?_ | with_reducible refine Lf.v_bl ?_ | with_reducible refine Lf.v_tru ?_ | with_reducible refine Lf.v_and ?_ | with_reducible refine Lf.v_or ?_ | with_reducible refine Lf.v_not ?_ | with_reducible refine Lf.v_andV ?_ | with_reducible refine Lf.v_orV ?_ | with_reducible refine Lf.v_notV ?_ | with_reducible refine Lf.v_c ?_ | with_reducible refine Lf.v_nil ?_ | with_reducible refine Lf.v_skip ?_ | with_reducible refine Lf.v_drop ?_ | with_reducible refine Lf.v_retN ?_ | with_reducible refine Lf.v_brk ?_ | with_reducible refine Lf.v_cnt ?_ | with_reducible refine Lf.v_nm ?_ | with_reducible refine Lf.v_gnil ?_ | with_reducible refine Lf.v_gcons ?_ | with_reducible refine Lf.v_yes ?_ | with_reducible refine Lf.v_for ?_ | with_reducible refine Lf.v_lc ?_ | with_reducible refine Lf.v_rg ?_ | with_reducible refine Lf.v_iter ?_ | with_reducible refine Lf.v_iterT ?_ | with_reducible refine Lf.v_add ?_ | with_reducible refine Lf.v_sub ?_ | with_reducible refine Lf.v_neg ?_ | with_reducible refine Lf.v_lt ?_ | with_reducible refine Lf.v_le ?_ | with_reducible refine Lf.v_gt ?_ | with_reducible refine Lf.v_ge ?_ | with_reducible refine Lf.v_eqI ?_ | with_reducible refine Lf.v_neI ?_ | with_reducible refine Lf.v_abs ?_ | with_reducible refine Lf.v_intI ?_ | with_reducible refine Lf.v_intB ?_ | with_reducible refine Lf.v_max2 ?_ | with_reducible refine Lf.v_min2 ?_ | with_reducible refine Lf.v_lenT ?_ | with_reducible refine Lf.v_lenN ?_ | with_reducible refine Lf.v_nw ?_ | with_reducible refine Lf.v_un ?_ | with_reducible refine Lf.v_tup ?_ | with_reducible refine Lf.v_lst ?_ | with_reducible refine Lf.v_par2 ?_ | with_reducible refine Lf.v_par3 ?_ | with_reducible refine Lf.v_chain ?_ | with_reducible refine Lf.v_meth ?_ | with_reducible refine Lf.v_subT ?_ | with_reducible refine Lf.v_isiIB ?_ | with_reducible refine Lf.v_isiII ?_ | with_reducible refine Lf.v_sl ?_ | with_reducible refine Lf.v_noP ?_ | with_reducible refine Lf.v_pt ?_ | with_reducible refine Lf.v_cutT ?_ | ((with_reducible apply Lf.v_var); exact rfl) | ((with_reducible refine Lf.v_kw ?_ ?_); exact rfl) | ((with_reducible apply Lf.v_iterO); first | exact rfl | assumption) | ((with_reducible apply Lf.v_lenL); first | exact rfl | assumption) | ((with_reducible refine Lf.v_unp ?_ ?_); exact rfl) | ((with_reducible apply Lf.v_aug); exact rfl) | ((with_reducible refine Lf.v_mod ?_ ?_); first | decide | omega | assumption | fail) | ((with_reducible refine Lf.v_div ?_ ?_); first | exact ⟨by decide, by decide +kernel⟩ | assumption | exact Lf.log2d (by omega) ⟨by omega, by omega⟩ | fail) | ((with_reducible refine Lf.v_mul ?_ ?_); first | exact Lf.log2m ⟨by omega, by omega⟩ ⟨by omega, by omega⟩ | exact Lf.log2m (by assumption) ⟨by omega, by omega⟩ | exact Lf.log2m ⟨by omega, by omega⟩ (by assumption) | fail) | ((with_reducible refine Lf.v_pow ?_ ?_); exact ⟨by decide, by decide, by decide⟩) | ((with_reducible refine Lf.v_rg1 ?_ ?_); first | decide | fail) | ((with_reducible apply Lf.v_ixL); (first | exact rfl | assumption | fail); (first | exact rfl | assumption | fail)) | ((with_reducible apply Lf.v_ixT); (first | exact rfl | assumption | fail)) | ((with_reducible apply Lf.v_ixN); (first | exact rfl | assumption | fail)) | with_reducible refine ⟨_, rfl, ?_⟩ | (refine ⟨_, (rfl : Lf.tru _ (Lf.U.bl _) = some _), ?_⟩) | with_reducible refine ⟨_, _, rfl, ?_⟩ | with_reducible refine ⟨_, _, _, rfl, ?_⟩ | (refine ⟨(Nat.le_of_ble_eq_true rfl : List.length _ ≤ 16777216), ?_⟩) | with_reducible refine Lf.v_enum ?_ | fail))
/-- locate; F: what stands in the place of the raise; iw: is_within over the whole store -/
def lcF (F : FxS) (iw sc : List U → M U) : FxS := fSeq (fIf (fNot (fTru (fCall (kdG .len 3 iw) (fCons (fVar 1) (fCons (fC (.int 0)) (fCons (fBin gSub (fCall (kdG .pur 1 sc) (fCons (fVar 0) (fNil))) (fC (.int 1))) (fNil))))))) (F) (fSkip)) (fSeq (fPar3 2 3 4 (fCons (fLst (fNil)) (fCons (fVar 0) (fCons (fVar 1) (fNil))))) (fWhile 1000000 (fTru (fC (.bl true))) (fSeq (fSet 5 (fC (.int 0))) (fSeq (fWhile 1000000 (fBl (fBin gGe (fVar 4) (fCall (kdG .pur 1 sc) (fCons (fSl (fVar 3) (fPt (fVar 5)) (fPt (fBin gAdd (fVar 5) (fC (.int 1))))) (fNil))))) (fSeq (fAug 4 gSub (fCall (kdG .pur 1 sc) (fCons (fSl (fVar 3) (fPt (fVar 5)) (fPt (fBin gAdd (fVar 5) (fC (.int 1))))) (fNil)))) (fAug 5 gIAdd (fC (.int 1))))) (fSeq (fDrop (fMeth isL gAppend (fVar 2) (fCons (fVar 5) (fNil)))) (fSeq (fSet 6 (fBin gIx (fVar 3) (fVar 5))) (fSeq (fIf (fBl (fBin (gEq true) (fBin gIx (fVar 6) (fC (.int 0))) (fC (.str "loop")))) (fRet (fTup (fCons (fCall gTuple (fCons (fVar 2) (fNil))) (fCons (fVar 6) (fNil))))) (fSkip)) (fSeq (fDrop (fMeth isL gAppend (fVar 2) (fCons (fBin gDiv (fVar 4) (fCall (kdG .pur 1 sc) (fCons (fBin gIx (fVar 6) (fC (.int 2))) (fNil)))) (fNil)))) (fSeq (fSet 4 (fBin gMod (fVar 4) (fCall (kdG .pur 1 sc) (fCons (fBin gIx (fVar 6) (fC (.int 2))) (fNil))))) (fSet 3 (fBin gIx (fVar 6) (fC (.int 2)))))))))))))
theorem lcF_ok {F : FxS} {g iw sc : List U → M U} {gt : Nat → List U → M U} {m : Nat} (hg : g = gDef 7 (lcF F iw sc)) (hw : iw = gDef 3 iwA) (hs : sc = gDef 1 (scA (gt m))) (ht : ∀ m, gt (m + 1) = gDef 4 (tmA (gt m))) {L : Nat} (hL : L ≤ 1000) {d : Nat} {xs : List U} (hd : d < m) (hd2 : d ≤ 6) (h : Pn Op Rd L d xs) {P : List Int} {s : Int} {it : U} (a : At d xs P s it)
    {T : Sto} {Q : U → Sto → Prop} (q : Q (.tup [.tup (P.map .int), it]) T) : Wp (kdG .pur 2 (fun us T => noex (g us T)) [.tup xs, .int s] T) Q := by
  subst hg
  refine purK (n := 2) (g := fun us T => noex (gDef 7 (lcF F iw sc) us T)) (us := [.tup xs, .int s]) rfl ?_ ?_
  · show (nrs xs && (true && true)) = true
    rw [h.nrs]; rfl
  show Wp (noex (gDef 7 _ _ [])) _
  refine wp_noex (gDef_wp ?_)
  obtain ⟨s0, s1⟩ := a.bd hL h
  unfold lcF
  rfl'
  refine scA_ok hs ht hL hd hd2 h ?_
  rfl'
  refine iwL_ok hw s0 (by omega) ?_
  rfl'
  refine v_while (JL d xs L P it (.tup xs) (.int s)) (fun n η T j => ?_) (d + 1) 1000000 _ _ (by omega) ⟨d, xs, [], P, s, _, _, rfl, rfl, a, h, rfl, Nat.le_refl _, by omega, by simp; omega⟩
  obtain ⟨d', ys, pre, P', s', o5, o6, rfl, rfl, a', h', ep, hd', hdn, hl⟩ := j
  obtain ⟨done, x, r, rest, rfl, rfl, r0, r1, hc⟩ := a'.head hL h'
  have hdone := h'.part
  have hL1 : 1 ≤ L := by have := h'.len; simp at this; omega
  have one : ∀ y : U, y ∈ done ++ x :: r → Pn Op Rd L d' [y] := fun y hy => h'.sub (fun z hz => by rw [List.mem_singleton.mp hz]; exact hy) hL1
  rfl'
  refine ⟨by omega, ?_⟩
  rfl'
  refine v_while (fun n η T => ∃ d1 d2, n = d2.length ∧ done = d1 ++ d2 ∧ T = [.lst (pre.map .int)] ∧ η = [some (.tup xs), some (.int s), some (.ob 0), some (.tup (done ++ x :: r)), some (.int (stp d' d2 + rest)), some (.int (d1.length : Int)), o6]) (fun n η T j => ?_) done.length 1000000 _ _ (by have := hdone.len; omega) ⟨[], done, rfl, rfl, rfl, rfl⟩
  · obtain ⟨d1, d2, hn2, rfl, rfl, rfl⟩ := j
    cases d2 with
    | nil =>
      have ec : cutU (d1 ++ [] ++ x :: r) (some (d1.length : Int)) (some ((d1.length : Int) + 1)) = [x] := by
        rw [List.append_nil]; exact cut_one d1 r x rfl
      rfl'
      rw [ec]
      refine scA_ok hs ht hL (by omega) (by omega) (one x (by simp)) ?_
      rfl'
      have z1 : stp d' [x] = cn1 (wt []) d' x := cnt_one _ _ _
      have z0 : stp d' [] = 0 := cnt_nil _ _
      refine v_nod (fun z => ?_) ?_
      · rw [z1, z0] at z
        omega
      rw [z0, Int.zero_add]
      rcases hc with ⟨ho, rfl, rfl⟩ | ⟨e, k, b, t, Pe, se, rfl, rfl, rfl, t0, t1, ae, rfl, hb, hk, se0, se1⟩
      · obtain ⟨w, is, rfl, hw7, _, _⟩ := id ho
        have ix : atI (d1 ++ [] ++ U.tup (U.str w :: is.map .int) :: r) (d1.length : Int) = some (U.tup (U.str w :: is.map .int)) := by
          rw [List.append_nil]
          unfold atI ixN
          rw [if_pos (by omega), if_pos (by simp; omega)]
          simp
        rfl'
        refine ⟨rfl, ?_⟩
        rfl'
        refine v_app rfl ⟨by rw [List.length_map]; omega, ?_⟩
        rfl'
        refine v_ix0 ?_
        rfl'
        refine v_neS (words7_ok w hw7) lp_str ?_
        rfl'
        refine v_yesd (words7_ne w hw7) ?_
        rfl'
        refine v_tuple (xs := pre.map .int ++ [.int (d1.length : Int)]) rfl ?_
        rfl'
        subst ep
        refine kP_tup ?_ ?_
        · have e1 : nrs (pre.map .int ++ [.int (d1.length : Int)]) = true := by
            have := nrs_ints (pre ++ [(d1.length : Int)])
            rwa [List.map_append] at this
          show (nrs (pre.map .int ++ [.int (d1.length : Int)]) && (nr (.tup (.str w :: is.map .int)) && true)) = true
          rw [e1, nr_op ho]
          rfl
        · have e : (pre ++ [((d1 ++ [] : List U).length : Int)]).map U.int = pre.map .int ++ [.int (d1.length : Int)] := by simp
          rw [← e]
          exact q
      · have ix : atI (d1 ++ [] ++ lpU k b :: r) (d1.length : Int) = some (lpU k b) := by
          rw [List.append_nil]
          unfold atI ixN
          rw [if_pos (by omega), if_pos (by simp; omega)]
          simp
        have hc1 : 0 < stp e b := by omega
        rfl'
        refine ⟨rfl, ?_⟩
        rfl'
        refine v_app rfl ⟨by rw [List.length_map]; omega, ?_⟩
        rfl'
        unfold lpU
        rfl'
        refine v_neS lp_str lp_str ?_
        rfl'
        refine v_nod (fun z => z rfl) ?_
        rfl'
        refine ⟨rfl, ?_⟩
        rfl'
        refine scA_ok hs ht hL (by omega) (by omega) hb ?_
        refine v_div (log2d hc1 (sm_of (d := e) (by omega) ⟨by have := Bd_pos e; omega, by have := stp_sm hL (by omega) hb; omega⟩)) ?_
        rfl'
        refine v_app rfl ⟨by simp; omega, ?_⟩
        rfl'
        refine scA_ok hs ht hL (by omega) (by omega) hb ?_
        refine v_mod hc1 ?_
        rfl'
        have e1 : (t * stp e b + se) / stp e b = t := by
          rw [Int.add_comm, Int.add_mul_ediv_right _ _ (by omega), Int.ediv_eq_zero_of_lt se0 se1, Int.zero_add]
        have e2 : (t * stp e b + se) % stp e b = se := by
          rw [Int.add_comm, Int.add_mul_emod_self_right, Int.emod_eq_of_lt se0 se1]
        rw [e1, e2]
        refine ⟨e, b, pre ++ [(d1.length : Int), t], Pe, se, _, _, rfl, by simp, ae, hb, by rw [← ep]; simp, by omega, by omega, by simp; omega⟩
    | cons y d3 =>
      have ec : cutU (d1 ++ y :: d3 ++ x :: r) (some (d1.length : Int)) (some ((d1.length : Int) + 1)) = [y] := by
        rw [List.append_assoc, List.cons_append]; exact cut_one d1 _ y rfl
      rfl'
      rw [ec]
      refine scA_ok hs ht hL (by omega) (by omega) (one y (by simp)) ?_
      rfl'
      have z1 : stp d' (y :: d3) = stp d' [y] + stp d' d3 := by show cnt _ _ _ = cnt _ _ _ + cnt _ _ _; rw [cnt_cons, cnt_one]
      have h3 : 0 ≤ stp d' d3 := stp_nn hL (hdone.sub (fun z hz => by simp [hz]) (by have := hdone.len; simp at this; omega))
      refine v_yesd (by omega) ⟨by rw [hn2, List.length_cons]; omega, ?_⟩
      rfl'
      rw [ec]
      refine scA_ok hs ht hL (by omega) (by omega) (one y (by simp)) ?_
      rfl'
      refine ⟨d1 ++ [y], d3, by rw [hn2, List.length_cons]; omega, by simp, rfl, ?_⟩
      rw [show stp d' (y :: d3) + rest - stp d' [y] = stp d' d3 + rest by omega]
      simp
end Lf


set_option Elab.async false
set_option linter.all false
set_option maxRecDepth 100000
set_option maxHeartbeats 4000000
/-! ## the paths of all steps, one by one -/
namespace Lf
open PySem PySem.Spec L2
abbrev Pw := List Int × U
def pU (w : Pw) : U := .tup [.tup (w.1.map .int), w.2]
def pt : Nat → List U → List Pw
  | 0, xs => xs.zipIdx.flatMap fun q => [([(q.2 : Int)], q.1)]
  | d + 1, xs => xs.zipIdx.flatMap fun q => match lpOf q.1 with
    | some (k, b) => (List.range k.toNat).flatMap fun t : Nat => (pt d b).map fun w => ((q.2 : Int) :: (t : Int) :: w.1, w.2)
    | none => [([(q.2 : Int)], q.1)]
def pt1 : Nat → Nat → U → List Pw
  | 0, i, x => [([(i : Int)], x)]
  | d + 1, i, x => match lpOf x with
    | some (k, b) => (List.range k.toNat).flatMap fun t : Nat => (pt d b).map fun w => ((i : Int) :: (t : Int) :: w.1, w.2)
    | none => [([(i : Int)], x)]
theorem pt_nil (d : Nat) : pt d [] = [] := by cases d <;> rfl
theorem pt_snoc (d : Nat) (xs : List U) (x : U) : pt d (xs ++ [x]) = pt d xs ++ pt1 d xs.length x := by
  cases d with
  | zero => simp [pt, pt1, List.zipIdx_append]
  | succ d => simp [pt, pt1, List.zipIdx_append]
theorem pt1_op {d i : Nat} {x : U} (h : Op x) : pt1 d i x = [([(i : Int)], x)] := by
  cases d with
  | zero => rfl
  | succ d => simp [pt1, h.no]
theorem pt1_lp {d i : Nat} {k : Int} {b : List U} : pt1 (d + 1) i (lpU k b) = (List.range k.toNat).flatMap fun t : Nat => (pt d b).map fun w => ((i : Int) :: (t : Int) :: w.1, w.2) := by
  simp [pt1, lpOf_lpU]
theorem blk_len {α : Type} (f : Nat → List α) (L : Nat) (hf : ∀ t, (f t).length = L) : ∀ k : Nat, ((List.range k).flatMap f).length = k * L
  | 0 => by simp
  | k + 1 => by rw [List.range_succ, List.flatMap_append, List.length_append, blk_len f L hf k]; simp [hf]; rw [Nat.add_mul]; omega
theorem blk_at {α : Type} (f : Nat → List α) (L : Nat) (hf : ∀ t, (f t).length = L) : ∀ (k j : Nat) (a : α), ((List.range k).flatMap f)[j]? = some a → ∃ t s, t < k ∧ j = t * L + s ∧ (f t)[s]? = some a
  | 0, j, a, h => by simp at h
  | k + 1, j, a, h => by
    rw [List.range_succ, List.flatMap_append] at h
    by_cases hj : j < ((List.range k).flatMap f).length
    · rw [List.getElem?_append_left hj] at h
      obtain ⟨t, s, h1, h2, h3⟩ := blk_at f L hf k j a h
      exact ⟨t, s, by omega, h2, h3⟩
    · rw [List.getElem?_append_right (by omega)] at h
      rw [blk_len f L hf k] at h hj
      refine ⟨k, j - k * L, by omega, by omega, by simpa using h⟩
/-- an instruction, or a loop of at most so many steps -/
abbrev Itm (N : Int) (d : Nat) (x : U) : Prop := Op x ∨ ∃ d' k b, d = d' + 1 ∧ x = lpU k b ∧ 0 ≤ k ∧ k ≤ 1000000 ∧ Ps N d' b
theorem snocInd {α : Type} {P : List α → Prop} (h0 : P []) (h1 : ∀ xs x, P xs → P (xs ++ [x])) (xs : List α) : P xs := by
  have : ∀ ys : List α, P ys.reverse := by
    intro ys
    induction ys with
    | nil => exact h0
    | cons y ys ih => rw [List.reverse_cons]; exact h1 _ _ ih
  have := this xs.reverse
  rwa [List.reverse_reverse] at this
theorem pt_len {N : Int} : ∀ (d : Nat) (xs : List U), (∀ x ∈ xs, Itm N d x) → ((pt d xs).length : Int) = stp d xs := by
  intro d
  induction d using Nat.strongRecOn with
  | ind d ih =>
    intro xs
    refine snocInd (P := fun xs => (∀ x ∈ xs, Itm N d x) → ((pt d xs).length : Int) = stp d xs) (fun _ => by rw [pt_nil]; exact (cnt_nil _ _).symm) (fun xs x ihx h => ?_) xs
    have e1 : stp d (xs ++ [x]) = stp d xs + cn1 (wt []) d x := by show cnt _ _ _ = cnt _ _ _ + _; rw [cnt_app, cnt_one]
    rw [pt_snoc, List.length_append, Int.natCast_add, ihx fun y hy => h y (List.mem_append_left _ hy), e1]
    rcases h x (by simp) with ho | ⟨d', k, b, rfl, rfl, hk, _, hb⟩
    · rw [pt1_op ho, cn1_op ho, wt_op ho]; rfl
    · rw [pt1_lp, cn1_lp, blk_len _ (pt d' b).length (fun t => by simp) k.toNat]
      have := ih d' (Nat.lt_succ_self _) b fun y hy => hb.item hy
      push_cast
      rw [this, Int.toNat_of_nonneg hk]
theorem pt_at {N : Int} : ∀ (d : Nat) (xs : List U), (∀ x ∈ xs, Itm N d x) → ∀ (j : Nat) (w : Pw), (pt d xs)[j]? = some w → ∀ r : List U, At d (xs ++ r) w.1 (j : Int) w.2 := by
  intro d
  induction d using Nat.strongRecOn with
  | ind d ih =>
    intro xs
    refine snocInd (P := fun xs => (∀ x ∈ xs, Itm N d x) → ∀ (j : Nat) (w : Pw), (pt d xs)[j]? = some w → ∀ r : List U, At d (xs ++ r) w.1 (j : Int) w.2) (fun _ j w h => by rw [pt_nil] at h; simp at h) (fun xs x ihx h j w hw r => ?_) xs
    have hI : ∀ y ∈ xs, Itm N d y := fun y hy => h y (List.mem_append_left _ hy)
    have hl := pt_len d xs hI
    rw [pt_snoc] at hw
    rw [List.append_assoc, List.singleton_append]
    by_cases hj : j < (pt d xs).length
    · rw [List.getElem?_append_left hj] at hw
      exact ihx hI j w hw (x :: r)
    · rw [List.getElem?_append_right (by omega)] at hw
      rcases h x (by simp) with ho | ⟨d', k, b, rfl, rfl, hk, _, hb⟩
      · rw [pt1_op ho] at hw
        have h0 : j - (pt d xs).length = 0 := by
          have := (List.getElem?_eq_some_iff.mp hw).1
          simp at this
          omega
        rw [h0] at hw
        cases hw
        rw [show (j : Int) = stp d xs by omega]
        exact .op ho
      · rw [pt1_lp] at hw
        have hbi : ∀ y ∈ b, Itm N d' y := fun y hy => hb.item hy
        have hbl := pt_len d' b hbi
        obtain ⟨t, s, ht, hs, hw⟩ := blk_at _ (pt d' b).length (fun t => by simp) k.toNat _ _ hw
        rw [List.getElem?_map] at hw
        obtain ⟨w', hw', rfl⟩ := Option.map_eq_some_iff.mp hw
        have a := ih d' (Nat.lt_succ_self _) b hbi s w' hw' []
        rw [List.append_nil] at a
        have := At.lp (done := xs) (r := r) (k := k) (t := (t : Int)) (by omega) (by omega) a
        have e : (j : Int) = stp (d' + 1) xs + ((t : Int) * stp d' b + (s : Int)) := by
          rw [← hbl, ← hl, ← Int.natCast_mul]
          omega
        rw [e]
        exact this
theorem pt_op {N : Int} {d : Nat} {xs : List U} (h : ∀ x ∈ xs, Itm N d x) : ∀ w ∈ pt d xs, Op w.2 := fun w hw => by
  obtain ⟨j, hj, e⟩ := List.mem_iff_getElem.mp hw
  exact (pt_at d xs h j w (by rw [List.getElem?_eq_getElem hj, e]) []).isop
theorem nr_pU {w : Pw} (h : Op w.2) : nr (pU w) = true := by
  show (nrs (w.1.map .int) && (nr w.2 && true)) = true
  rw [nrs_ints, nr_op h]; rfl
theorem pts_dat {T : Sto} {n : Nat} : ∀ l : List Pw, (∀ w ∈ l, Op w.2) → ∃ ds, dats (dat T (n + 3)) (l.map pU) = some ds ∧ PyData.canLayAll0 ds = true ∧ PyData.depthAll ds ≤ 4 ∧ ds.length = l.length
  | [], _ => ⟨[], rfl, rfl, by decide +kernel, rfl⟩
  | w :: l, h => by
    obtain ⟨ds, h1, h2, h3, h4⟩ := pts_dat l fun y hy => h y (List.mem_cons_of_mem _ hy)
    obtain ⟨os, o1, o2, o3, o4⟩ := ops_dat (T := T) (n := n) [w.2] fun y hy => by rw [List.mem_singleton.mp hy]; exact h w (List.mem_cons_self ..)
    obtain ⟨o, rfl⟩ : ∃ o, os = [o] := by
      match os, o4 with
      | [o], _ => exact ⟨o, rfl⟩
    have hi : ∀ ns : List Int, dats (dat T (n + 1)) (ns.map .int) = some (ns.map .int) ∧ PyData.canLayAll0 (ns.map .int) = true ∧ PyData.depthAll (ns.map .int) = 0 := by
      intro ns
      induction ns with
      | nil => exact ⟨rfl, rfl, by decide +kernel⟩
      | cons m ns ih =>
        rw [List.map_cons, List.map_cons]
        refine ⟨by unfold dats; rw [ih.1]; rfl, ?_, ?_⟩
        · simp [PyData.canLayAll0, PyData.canLay0, ih.2.1]
        · simp [PyData.depthAll, PyData.depth, ih.2.2]
    have e : dat T (n + 3) (pU w) = some (.tuple [.tuple (w.1.map .int), o]) := by
      show (dats (dat T (n + 2)) [.tup (w.1.map .int), w.2]).map PyData.tuple = _
      have e1 : dat T (n + 2) (.tup (w.1.map .int)) = some (.tuple (w.1.map .int)) := by
        show (dats (dat T (n + 1)) (w.1.map .int)).map PyData.tuple = _
        rw [(hi w.1).1]; rfl
      have e2 : dats (dat T (n + 2)) [w.2] = some [o] := o1
      unfold dats
      rw [e1, e2]; rfl
    refine ⟨.tuple [.tuple (w.1.map .int), o] :: ds, by rw [List.map_cons]; unfold dats; rw [e, h1], ?_, ?_, by simp [h4]⟩
    · have : o.canLay0 = true := by simpa [PyData.canLayAll0] using o2
      simp [PyData.canLayAll0, PyData.canLay0, h2, (hi w.1).2.1, this]
    · have : o.depth ≤ 2 := by simpa [PyData.depthAll] using o3
      simp [PyData.depthAll, PyData.depth, (hi w.1).2.2]; omega
theorem pt_plen : ∀ (d : Nat) (xs : List U) (w : Pw), w ∈ pt d xs → w.1.length ≤ 2 * d + 1
  | 0, xs, w, h => by
    obtain ⟨q, _, hw⟩ := List.mem_flatMap.mp h
    rw [List.mem_singleton.mp hw]; simp
  | d + 1, xs, w, h => by
    obtain ⟨q, _, hw⟩ := List.mem_flatMap.mp h
    split at hw
    · obtain ⟨t, _, hw⟩ := List.mem_flatMap.mp hw
      obtain ⟨v, hv, rfl⟩ := List.mem_map.mp hw
      have := pt_plen d _ v hv
      simp; omega
    · rw [List.mem_singleton.mp hw]; simp
def lpA (self : List U → M U) : FxS :=
  fSeq (fSet 1 (fLst (fNil))) (fSeq (fFor (fEnT (fCons (fVar 0) (fNil))) (gUnp 2 (gCons (gNm 2) (gCons (gNm 3) (gNil)))) (fIf (fBl (fBin (gEq false) (fBin gIx (fVar 3) (fC (.int 0))) (fC (.str "loop")))) (fSeq (fSet 4 (fCall (kdG .pur 1 self) (fCons (fBin gIx (fVar 3) (fC (.int 2))) (fNil)))) (fFor (fRg gRg1 (fCons (fBin gMul (fBin gIx (fVar 3) (fC (.int 1))) (fCall gInt (fCons (fBin (gEq true) (fVar 4) (fLst (fNil))) (fNil)))) (fNil))) (gNm 5) (fDrop (fMeth isL gExtend (fVar 1) (fCons (fLc [6, 7] (fIter (fVar 4)) (gUnp 2 (gCons (gNm 6) (gCons (gNm 7) (gNil)))) (fYes) (fTup (fCons (fBin gAdd (fTup (fCons (fVar 2) (fCons (fVar 5) (fNil)))) (fVar 6)) (fCons (fVar 7) (fNil))))) (fNil)))))) (fDrop (fMeth isL gAppend (fVar 1) (fCons (fTup (fCons (fTup (fCons (fVar 2) (fNil))) (fCons (fVar 3) (fNil)))) (fNil)))))) (fRet (fVar 1)))
theorem enl_zip (xs : List U) : enl xs = (xs.zipIdx 0).map fun q => .tup [.int (q.2 : Nat), q.1] := by
  unfold enl
  apply List.ext_getElem?
  intro i
  rw [List.getElem?_map, List.getElem?_map, List.getElem?_zipIdx]
  by_cases hi : i < xs.length
  · rw [List.getElem?_range hi]
    simp [hi]
  · rw [List.getElem?_eq_none (by simp; omega), List.getElem?_eq_none (by omega)]; rfl
/-- a turn of the loop: the steps within, with the two numbers ahead -/
abbrev turnP (i t : Nat) (l : List Pw) : List Pw := l.map fun w => ((i : Int) :: (t : Int) :: w.1, w.2)
local macro_rules | `(tactic| rfl') => `(tactic| repeat (first | with_reducible refine Lf.kS_nx ?_ | with_reducible refine Lf.kS_rt ?_ | with_reducible refine Lf.kS_bk ?_ | with_reducible refine Lf.kS_ct ?_ | with_reducible refine Lf.kD_rt ?_ | with_reducible refine Lf.kD_nx ?_ | with_reducible refine Lf.kF_nx ?_ | with_reducible refine Lf.kF_ct ?_ | with_reducible refine Lf.kF_bk ?_ | with_reducible refine Lf.kF_rt ?_ | with_reducible refine Lf.v_ifT ?_ | with_reducible refine Lf.v_ifF ?_ | with_reducible refine Lf.v_ifNT ?_ | with_reducible refine Lf.v_ifNF ?_ | with_reducible refine Lf.kP_int ?_ | with_reducible refine Lf.kP_bl ?_ | with_reducible refine Lf.kP_str ?_ | with_reducible refine Lf.kP_non ?_ | with_reducible refine Lf.v_iadd ?_ | with_reducible refine Lf.Wp.ok ?_ | with_reducible refine Lf.seq_wp ?_ | with_reducible refine Lf.v_bin ?_ | with_reducible refine Lf.v_cons ?_ | with_reducible refine Lf.v_call ?_ | with_reducible refine Lf.v_ret ?_ | with_reducible refine Lf.v_set ?_ | with_reducible refine Lf.v_asg ?_ | with_reducible refine Lf.v_if ?_ | with_reducible refine Lf.v_ifE ?_ | with_reducible refine Lf.v_bl ?_ | with_reducible refine Lf.v_tru ?_ | with_reducible refine Lf.v_and ?_ | with_reducible refine Lf.v_or ?_ | with_reducible refine Lf.v_not ?_ | with_reducible refine Lf.v_andV ?_ | with_reducible refine Lf.v_orV ?_ | with_reducible refine Lf.v_notV ?_ | with_reducible refine Lf.v_c ?_ | with_reducible refine Lf.v_nil ?_ | with_reducible refine Lf.v_skip ?_ | with_reducible refine Lf.v_drop ?_ | with_reducible refine Lf.v_retN ?_ | with_reducible refine Lf.v_brk ?_ | with_reducible refine Lf.v_cnt ?_ | with_reducible refine Lf.v_nm ?_ | with_reducible refine Lf.v_gnil ?_ | with_reducible refine Lf.v_gcons ?_ | with_reducible refine Lf.v_yes ?_ | with_reducible refine Lf.v_for ?_ | with_reducible refine Lf.v_lc ?_ | with_reducible refine Lf.v_rg ?_ | with_reducible refine Lf.v_iter ?_ | with_reducible refine Lf.v_iterT ?_ | with_reducible refine Lf.v_add ?_ | with_reducible refine Lf.v_sub ?_ | with_reducible refine Lf.v_neg ?_ | with_reducible refine Lf.v_lt ?_ | with_reducible refine Lf.v_le ?_ | with_reducible refine Lf.v_gt ?_ | with_reducible refine Lf.v_ge ?_ | with_reducible refine Lf.v_eqI ?_ | with_reducible refine Lf.v_neI ?_ | with_reducible refine Lf.v_abs ?_ | with_reducible refine Lf.v_intI ?_ | with_reducible refine Lf.v_intB ?_ | with_reducible refine Lf.v_max2 ?_ | with_reducible refine Lf.v_min2 ?_ | with_reducible refine Lf.v_lenT ?_ | with_reducible refine Lf.v_lenN ?_ | with_reducible refine Lf.v_nw ?_ | with_reducible refine Lf.v_un ?_ | with_reducible refine Lf.v_tup ?_ | with_reducible refine Lf.v_lst ?_ | with_reducible refine Lf.v_par2 ?_ | with_reducible refine Lf.v_par3 ?_ | with_reducible refine Lf.v_chain ?_ | with_reducible refine Lf.v_meth ?_ | with_reducible refine Lf.v_subT ?_ | with_reducible refine Lf.v_isiIB ?_ | with_reducible refine Lf.v_isiII ?_ | with_reducible refine Lf.v_sl ?_ | with_reducible refine Lf.v_noP ?_ | with_reducible refine Lf.v_pt ?_ | with_reducible refine Lf.v_cutT ?_ | ((with_reducible apply Lf.v_var); exact rfl) | ((with_reducible refine Lf.v_kw ?_ ?_); exact rfl) | ((with_reducible apply Lf.v_iterO); first | exact rfl | assumption) | ((with_reducible apply Lf.v_lenL); first | exact rfl | assumption) | ((with_reducible refine Lf.v_unp ?_ ?_); exact rfl) | ((with_reducible apply Lf.v_aug); exact rfl) | ((with_reducible refine Lf.v_mod ?_ ?_); first | decide | omega | assumption | fail) | ((with_reducible refine Lf.v_div ?_ ?_); first | exact ⟨by decide, by decide +kernel⟩ | assumption | exact Lf.log2d (by omega) ⟨by omega, by omega⟩ | fail) | ((with_reducible refine Lf.v_mul ?_ ?_); first | exact Lf.log2m ⟨by omega, by omega⟩ ⟨by omega, by omega⟩ | exact Lf.log2m (by assumption) ⟨by omega, by omega⟩ | exact Lf.log2m ⟨by omega, by omega⟩ (by assumption) | fail) | ((with_reducible refine Lf.v_pow ?_ ?_); exact ⟨by decide, by decide, by decide⟩) | ((with_reducible refine Lf.v_rg1 ?_ ?_); first | decide | fail) | ((with_reducible apply Lf.v_ixL); (first | exact rfl | assumption | fail); (first | exact rfl | assumption | fail)) | ((with_reducible apply Lf.v_ixT); (first | exact rfl | assumption | fail)) | ((with_reducible apply Lf.v_ixN); (first | exact rfl | assumption | fail)) | with_reducible refine ⟨_, rfl, ?_⟩ | (refine ⟨_, (rfl : Lf.tru _ (Lf.U.bl _) = some _), ?_⟩) | with_reducible refine ⟨_, _, rfl, ?_⟩ | with_reducible refine ⟨_, _, _, rfl, ?_⟩ | (refine ⟨(Nat.le_of_ble_eq_true rfl : List.length _ ≤ 16777216), ?_⟩) | with_reducible refine Lf.v_enum ?_ | fail))
theorem lp_ok {g : Nat → List U → M U} (hg : ∀ m, g (m + 1) = gDef 8 (lpA (g m))) {N : Int} (hN : N ≤ 4000000) : ∀ (d m : Nat) (xs : List U), d < m → d ≤ 6 → Ps N d xs → ∀ (T : Sto) (Q : U → Sto → Prop), Q (.ob T.length) (T ++ [.lst ((pt d xs).map pU)]) → Wp (kdG .pur 1 (g m) [.tup xs] T) Q := by
  intro d
  induction d using Nat.strongRecOn with
  | ind d ih =>
    intro m xs hm hd6 hx T Q q
    obtain ⟨m, rfl⟩ : ∃ m', m = m' + 1 := ⟨m - 1, by omega⟩
    have hI : ∀ x ∈ xs, Itm N d x := fun x hx' => hx.item hx'
    have ht := hx.tot
    have hpl := pt_len d xs hI
    rw [hg]
    refine purK rfl ?_ (gDef_wp ?_)
    · show (nrs xs && true) = true
      rw [(Ps.flt hx).2.2]; rfl
    unfold lpA
    rfl'
    refine v_enT ?_
    rfl'
    refine v_enTT ?_
    rw [enl_zip]
    refine wp_forC (fun r η T => ∃ done rest o2 o3 o4 o5 o6 o7, xs = done ++ rest ∧ r = (rest.zipIdx done.length).map (fun q => .tup [.int (q.2 : Nat), q.1]) ∧ η = [some (.tup xs), some (.ob 0), o2, o3, o4, o5, o6, o7] ∧ T[0]? = some (.lst ((pt d done).map pU))) ⟨[], xs, _, _, _, _, _, _, rfl, rfl, rfl, by rw [pt_nil]; rfl⟩ (fun z r η T1 ⟨done, rest, o2, o3, o4, o5, o6, o7, ex, er, e, hT⟩ => ?_) (fun η T1 ⟨done, rest, o2, o3, o4, o5, o6, o7, ex, er, e, hT⟩ => ?_)
    · subst e
      obtain ⟨x, rest, rfl⟩ : ∃ x rest', rest = x :: rest' := by
        cases rest with
        | nil => cases er
        | cons x r' => exact ⟨x, r', rfl⟩
      rw [List.zipIdx_cons, List.map_cons] at er
      cases er
      have hxx : x ∈ xs := by rw [ex]; exact List.mem_append_right _ (List.mem_cons_self ..)
      have enx : xs = (done ++ [x]) ++ rest := by rw [ex]; simp
      have hdone : ∀ y ∈ done, Itm N d y := fun y hy => hI y (by rw [ex]; exact List.mem_append_left _ hy)
      have hdl := pt_len d done hdone
      have hdl2 := pt_len (N := N) d (done ++ [x]) (fun y hy => hI y (by rw [enx]; exact List.mem_append_left _ hy))
      have p1 := stp_part (done := done ++ [x]) (r := rest) (by rw [← enx]; exact hx)
      rw [← enx] at p1
      have hsn := pt_snoc d done x
      have len1 : (done ++ [x]).length = done.length + 1 := by simp
      rcases hI x hxx with ho | ⟨d', k, b, rfl, rfl, hk, hk2, hb⟩
      · have e1 := pt1_op (d := d) (i := done.length) ho
        obtain ⟨w, is, rfl, hw, _, _⟩ := ho
        rw [hsn, e1, List.length_append, List.length_singleton] at hdl2
        rfl'
        refine v_ix0 ?_
        rfl'
        refine v_eqS (words7_ok w hw) lp_str ?_
        rfl'
        refine v_nod (words7_ne w hw) ?_
        rfl'
        refine ⟨isl_at hT, ?_⟩
        rfl'
        refine v_app hT ⟨by rw [List.length_map]; omega, ?_⟩
        rfl'
        exact ⟨_, rest, _, _, _, _, _, _, enx, by rw [len1], rfl, by rw [List.getElem?_set_self (lt_at hT), hsn, e1, List.map_append]; rfl⟩
      · have hbi : ∀ y ∈ b, Itm N d' y := fun y hy => hb.item hy
        have hbl := pt_len d' b hbi
        have hbo := pt_op hbi
        unfold lpU
        rfl'
        refine v_eqS lp_str lp_str ?_
        rfl'
        refine v_yesd rfl ?_
        rfl'
        refine ih d' (Nat.lt_succ_self _) m b (by omega) (by omega) hb _ _ ?_
        have hB : stp d' b ≤ N := hb.tot
        have hT2 : (T1 ++ [O.lst ((pt d' b).map pU)])[0]? = some (.lst ((pt (d' + 1) done).map pU)) := by rw [List.getElem?_append_left (lt_at hT)]; exact hT
        have hb2 : (T1 ++ [O.lst ((pt d' b).map pU)])[T1.length]? = some (.lst ((pt d' b).map pU)) := by simp
        have hj0 : T1.length ≠ 0 := Nat.ne_of_gt (lt_at hT)
        generalize T1 ++ [O.lst ((pt d' b).map pU)] = T2 at hT2 hb2 ⊢
        generalize T1.length = jb at hb2 hj0 ⊢
        rfl'
        have hT3 : (T2 ++ [O.lst []])[0]? = some (.lst ((pt (d' + 1) done).map pU)) := by rw [List.getElem?_append_left (lt_at hT2)]; exact hT2
        have hb3 : (T2 ++ [O.lst []])[jb]? = some (.lst ((pt d' b).map pU)) := by rw [List.getElem?_append_left (lt_at hb2)]; exact hb2
        have he3 : (T2 ++ [O.lst []])[T2.length]? = some (.lst []) := by simp
        generalize T2.length = je at he3 ⊢
        generalize T2 ++ [O.lst []] = T3 at hT3 hb3 he3 ⊢
        obtain ⟨ds, d1, d2, d3, d4⟩ := pts_dat (T := T3) (n := 62) (pt d' b) hbo
        have da : dat T3 66 (.ob jb) = some (.list ds) := by
          show (match T3[jb]? with
            | some (.lst xs) => (dats (dat T3 65) xs).map PyData.list
            | _ => none) = _
          rw [hb3]
          show (dats (dat T3 65) ((pt d' b).map pU)).map PyData.list = _
          rw [d1]; rfl
        have de : dat T3 66 (.ob je) = some (.list []) := by
          show (match T3[je]? with
            | some (.lst xs) => (dats (dat T3 65) xs).map PyData.list
            | _ => none) = _
          rw [he3]; rfl
        refine v_neD da de (by simp [SeqAt.shaped, PyData.canLay0, PyData.depth, d2]; omega) (by decide +kernel) ?_
        rfl'
        have em : ∀ z : Bool, k * (if z = true then 1 else 0) = if z = true then k else 0 := by intro z; cases z <;> simp
        rw [em]
        refine v_rg1 (small62_of (by split <;> omega) (by split <;> omega)) ?_
        have goal2 : ∀ z : Bool, ((List.range (if z = true then k else 0).toNat).flatMap (fun t => turnP done.length t (pt d' b)) = (List.range k.toNat).flatMap (fun t => turnP done.length t (pt d' b))) →
            Wp (forN (gNm 5) (fDrop (fMeth isL gExtend (fVar 1) (fCons (fLc [6, 7] (fIter (fVar 4)) (gUnp 2 (gCons (gNm 6) (gCons (gNm 7) gNil))) fYes (fTup (fCons (fBin gAdd (fTup (fCons (fVar 2) (fCons (fVar 5) fNil))) (fVar 6)) (fCons (fVar 7) fNil)))) fNil))) (constI (rgU 0 (if z = true then k else 0).toNat)).fin (constI (rgU 0 (if z = true then k else 0).toNat)).its [some (.tup xs), some (.ob 0), some (.int (done.length : Nat)), some (lpU k b), some (.ob jb), o5, o6, o7] T3)
            fun p T => ∃ o5 o6 o7, p = (.nx, [some (.tup xs), some (.ob 0), some (.int (done.length : Nat)), some (lpU k b), some (.ob jb), o5, o6, o7]) ∧ T[0]? = some (.lst ((pt (d' + 1) (done ++ [lpU k b])).map pU)) := fun z hz => by
          have hzk : (if z = true then k else 0).toNat ≤ k.toNat := by split <;> omega
          generalize hK : (if z = true then k else 0).toNat = K at hz hzk ⊢
          refine wp_forC (fun r η T => ∃ (j : Nat) (o5 o6 o7 : Option U), r = (rgU 0 K).drop j ∧ j ≤ K ∧ η = [some (.tup xs), some (.ob 0), some (.int (done.length : Nat)), some (lpU k b), some (.ob jb), o5, o6, o7] ∧ T[0]? = some (.lst ((pt (d' + 1) done).map pU ++ ((List.range j).flatMap fun t => turnP done.length t (pt d' b)).map pU)) ∧ T[jb]? = some (.lst ((pt d' b).map pU))) ⟨0, _, _, _, rfl, Nat.zero_le _, rfl, by simpa using hT3, hb3⟩ (fun y r η T ⟨j, o5, o6, o7, er, hjK, e, h0, hb0⟩ => ?_) (fun η T ⟨j, o5, o6, o7, er, hjK, e, h0, hb0⟩ => ?_)
          · subst e
            have hy : (rgU 0 K)[j]? = some y := by
              have := congrArg (fun l : List U => l[0]?) er
              simpa using this.symm
            obtain ⟨rfl, hj⟩ := rgU_at hy
            have er' : r = (rgU 0 K).drop (j + 1) := by
              have := congrArg List.tail er
              simpa using this
            rw [show (0 : Int) + (j : Nat) = (j : Nat) by omega]
            have hlj := blk_len (fun t => turnP done.length t (pt d' b)) (pt d' b).length (fun t => by simp) j
            have ljk : (j : Int) * stp d' b ≤ k * stp d' b := Int.mul_le_mul_of_nonneg_right (by omega) (by omega)
            have lj1 : ((j : Int) + 1) * stp d' b ≤ k * stp d' b := Int.mul_le_mul_of_nonneg_right (by omega) (by omega)
            rw [Int.add_mul] at lj1
            have e3 : stp (d' + 1) (done ++ [lpU k b]) = stp (d' + 1) done + k * stp d' b := by
              show cnt _ _ _ = cnt _ _ _ + _
              rw [cnt_app, cnt_one, cn1_lp]
            have hlj' : (((List.range j).flatMap (fun t => turnP done.length t (pt d' b))).length : Int) = j * stp d' b := by rw [hlj, Int.natCast_mul, hbl]
            rfl'
            refine ⟨isl_at h0, ?_⟩
            rfl'
            refine wp_lcO (k := jb) (xs := (pt d' b).map pU) (fun i acc T' => T' = T ∧ acc = (turnP done.length j ((pt d' b).take i)).map pU) ⟨rfl, rfl⟩ (fun i acc T' h => by rw [h.1]; exact hb0) (fun i x acc T' hx ⟨eT, ec⟩ => ?_) (fun acc T' ⟨eT, ec⟩ => ?_)
            · subst eT ec
              rw [List.getElem?_map] at hx
              obtain ⟨w, hw, rfl⟩ := Option.map_eq_some_iff.mp hx
              have hwl := pt_plen d' b w (List.mem_of_getElem? hw)
              have hil := (List.getElem?_eq_some_iff.mp hw).1
              unfold pU
              rfl'
              refine v_addT (by rw [List.length_map]; simp; omega) ?_
              rfl'
              refine ⟨by simp; omega, rfl, ?_⟩
              rw [List.take_succ, hw]
              simp [pU]
            · subst eT ec
              rw [List.length_map, List.take_length]
              rfl'
              refine v_ext (xs := (pt (d' + 1) done).map pU ++ ((List.range j).flatMap fun t => turnP done.length t (pt d' b)).map pU) (ys := (turnP done.length j (pt d' b)).map pU) (by rw [List.getElem?_append_left (lt_at h0)]; exact h0) (by simp) ⟨?_, ?_⟩
              · simp only [List.length_append, List.length_map]
                omega
              · refine ⟨j + 1, _, _, _, er', by omega, rfl, ?_, ?_⟩
                · rw [List.getElem?_set_self (by simp), List.range_succ, List.flatMap_append, List.map_append, List.append_assoc]
                  simp
                · rw [List.getElem?_set_ne (Ne.symm hj0), List.getElem?_append_left (lt_at hb0)]
                  exact hb0
          · subst e
            have hj : j = K := by
              have := congrArg List.length er
              rw [List.length_nil, List.length_drop, rgU_len] at this
              omega
            refine ⟨_, _, _, rfl, ?_⟩
            rw [h0, hj, hz, pt_snoc, pt1_lp, List.map_append]
        refine Wp.mono (goal2 _ ?_) fun p T ⟨o5, o6, o7, ep, h0⟩ => ?_
        · by_cases hne : pt d' b = []
          · have hz : ∀ l : List Nat, l.flatMap (fun _ => ([] : List Pw)) = [] := fun l => by simp
            rw [hne]
            show List.flatMap (fun _ => []) _ = List.flatMap (fun _ => []) _
            rw [hz, hz]
          · have hds : ds ≠ [] := fun z => by
              rw [z] at d4
              exact hne (List.length_eq_zero_iff.mp d4.symm)
            have : (!PyData.eqv (.list ds) (.list [])) = true := by
              cases ds with
              | nil => exact absurd rfl hds
              | cons e ds => simp [PyData.eqv, PyData.eqvAll]
            rw [this]; rfl
        · subst ep
          rfl'
          exact ⟨_, rest, _, _, _, _, _, _, enx, by rw [len1], rfl, h0⟩
    · subst e
      obtain rfl : rest = [] := by
        cases rest with
        | nil => rfl
        | cons x r' => cases er
      rw [List.append_nil] at ex
      subst ex
      rfl'
      refine kP_ob hT ?_ q
      exact nrs_of fun x hx => by
        obtain ⟨w, hw, rfl⟩ := List.mem_map.mp hx
        exact nr_pU (pt_op hI w hw)
end Lf


set_option Elab.async false
set_option linter.all false
set_option maxRecDepth 100000
set_option maxHeartbeats 4000000
/-! ## range with a step; dict of pairs; a number in a dict -/
namespace Lf
open PySem PySem.Spec L2
/-! ### range(i, j, c), c > 0 -/
def upU (i c : Int) (n : Nat) : List U := (List.range n).map fun t => .int (i + (t : Nat) * c)
def upN (i j c : Int) : Nat := if i < j then ((j - i - 1) / c + 1).toNat else 0
def gRgUp : List U → M ItF := fun us T => match us with
  | [.int i, .int j, .int c] => if 0 < c ∧ c < 1073741824 ∧ Builtin.Range.small i j c = true then .ok (constI (upU i c (upN i j c))) T else .no
  | _ => .no
theorem rgC_up {i j c : Int} (h0 : 0 < c) (h1 : c < 1073741824) (h2 : Builtin.Range.small i j c = true) : RgC i j c (upN i j c) := by
  refine ⟨by omega, by omega, h2, ?_⟩
  unfold Builtin.Range.rangeSize upN
  rw [if_pos h0]
  split
  · have : 0 ≤ (j - i - 1) / c := Int.ediv_nonneg (by omega) (by omega)
    omega
  · rfl
theorem itOk_up {K : PySem.W.Frag} {ρ : List Addr} {H : Hp} {i c : Int} {n : Nat} : ItOk K ρ H (constI (upU i c n)) (Itc i c n) := by
  have hl : (upU i c n).length = n := by simp [upU]
  refine itOk_const (fun i H' h _ => by rw [hl] at h; exact h) (fun H' _ => by rw [hl]; exact Nat.le_refl _) (fun t u ρ' H' y H'' e g yy => ?_)
  obtain ⟨e1, rfl⟩ := yy
  refine ⟨e1, ?_⟩
  unfold upU at e
  rw [List.getElem?_map] at e
  obtain ⟨s, q, rfl⟩ := Option.map_eq_some_iff.mp e
  obtain rfl := range_at q
  exact .int _
theorem fi_rangeUp {X : Cx} {E : XK} {tg a b c : Expr} {Fr : FxA} {p pos : Pos} (hg : Gl X "range") (hm : X.mg "range" = none) (ha : FA X E [a, b, c] Fr)
    (hs : starEach [a, b, c] X.env = (false, eval a X.env) :: starEach [b, c] X.env := by rfl) (hpl : (backTo pos (starEach [b, c] X.env)).any (·.1) = false := by rfl) : FI X E tg (.Call (.Name "range" p) [a, b, c] [] pos) (fRg gRgUp Fr) := by
  obtain ⟨t, k, q⟩ := ha
  refine ⟨_, pi_range3 hg hm k hs hpl, fun σ H ρ T η R s r h => ?_⟩
  refine q σ H ρ T η _ s r (OK.mono (OK.bind h) fun vs H1 ⟨ρ1, T1, us, g1, s1, r1, k1⟩ => ?_)
  unfold gRgUp at k1
  split at k1
  · rename_i i j c
    split at k1
    · rename_i hc
      match r1 with
      | .cons (.int _) (.cons (.int _) (.cons (.int _) .nil)) => exact ⟨i, j, c, _, rfl, rgC_up hc.1 hc.2.1 hc.2.2, k1 _ _ _ Gr.refl s1 itOk_up⟩
    · exact False.elim k1
  · exact False.elim k1
theorem v_rgUp {i j c : Int} {T : Sto} {QI : ItF → Sto → Prop} (h0 : 0 < c) (h1 : c < 1073741824) (h2 : Builtin.Range.small i j c = true) (q : QI (constI (upU i c (upN i j c))) T) : Wp (gRgUp [.int i, .int j, .int c] T) QI := by
  unfold gRgUp
  simp only [h0, h1, h2, and_self, if_true]
  exact .ok q
/-! ### dict of a list of pairs, the keys numbers, each once -/
def prP : U → Option (Int × U)
  | .tup [.int i, v] => some (i, v)
  | _ => none
theorem prP_ok {u : U} {p : Int × U} (e : prP u = some p) : u = .tup [.int p.1, p.2] := by
  unfold prP at e
  split at e
  · cases e
    rfl
  · cases e
def prI : List U → Option (List (Int × U))
  | [] => some []
  | x :: r => match prP x with
    | some p => (prI r).map (p :: ·)
    | none => none
def gDictP : List U → M U := fun us T => match us with
  | [.ob k] => match T[k]? with
    | some (.lst xs) => match prI xs with
      | some ps => if (ps.map (·.1)).Nodup then nw (.dic (ps.map fun p => (.int p.1, p.2))) T else .no
      | none => .no
    | _ => .no
  | _ => .no
theorem prI_ok {K : PySem.W.Frag} {ρ : List Addr} {H : Hp} {xs : List U} {vs : List V} (h : RVs K ρ H xs vs) : ∀ {ps : List (Int × U)}, prI xs = some ps →
    ∃ (as : List Addr) (kvs : List (Key × V)), vs = as.map V.ref ∧ Paired (fun p kv => SqT K H p [kV kv.1, kv.2]) as kvs ∧ Paired (fun (p : Int × U) (kv : Key × V) => kv.1 = .inl p.1 ∧ RV K ρ H p.2 kv.2) ps kvs := by
  induction xs generalizing vs with
  | nil =>
    intro ps e
    cases h
    cases e
    exact ⟨[], [], rfl, .nil, .nil⟩
  | cons x r ih =>
    intro ps e
    cases h with
    | cons rx rs =>
      unfold prI at e
      cases hx : prP x with
      | none => rw [hx] at e; cases e
      | some p =>
        rw [hx] at e
        obtain ⟨ps', e1, rfl⟩ := Option.map_eq_some_iff.mp e
        obtain ⟨as, kvs, h1, h2, h3⟩ := ih rs e1
        obtain rfl := prP_ok hx
        cases rx with
        | @tup a vs2 _ sq rs2 =>
          cases rs2 with
          | cons r3 rs3 =>
            cases r3
            cases rs3 with
            | cons r4 rs4 =>
              cases rs4
              exact ⟨_ :: as, (.inl p.1, _) :: kvs, by rw [h1]; rfl, .cons sq h2, .cons ⟨rfl, r4⟩ h3⟩
theorem merge_new : ∀ (more kvs : List (Key × V)), ((kvs ++ more).map (·.1)).Nodup → mergeK kvs more = kvs ++ more
  | [], kvs, _ => by show kvs = kvs ++ []; rw [List.append_nil]
  | p :: r, kvs, h => by
    show mergeK (putK kvs p.1 p.2) r = _
    have hp : putK kvs p.1 p.2 = kvs ++ [p] := by
      unfold putK
      rw [if_neg]
      intro ha
      obtain ⟨q, hq, he⟩ := List.any_eq_true.mp ha
      have he : q.1 = p.1 := of_decide_eq_true he
      rw [List.map_append, List.nodup_append] at h
      exact h.2.2 _ (List.mem_map.mpr ⟨q, hq, rfl⟩) _ (List.mem_map.mpr ⟨p, List.mem_cons_self .., rfl⟩) he
    rw [hp, merge_new r _ (by rw [List.append_assoc, List.singleton_append]; exact h), List.append_assoc, List.singleton_append]
theorem pr_gr {K : PySem.W.Frag} {ρ ρ' : List Addr} {H H' : Hp} (g : Gr K ρ H ρ' H') {ps : List (Int × U)} {kvs : List (Key × V)} (h : Paired (fun (p : Int × U) (kv : Key × V) => kv.1 = .inl p.1 ∧ RV K ρ H p.2 kv.2) ps kvs) :
    Paired (fun (p : U × U) (q : Key × V) => p.1 = kU q.1 ∧ RV K ρ' H' p.2 q.2) (ps.map fun p => (.int p.1, p.2)) kvs := by
  induction h with
  | nil => exact .nil
  | cons a _ ih => exact .cons ⟨by rw [a.1]; rfl, a.2.gr g⟩ ih
theorem fcl_dictP {X : Cx} {E : XK} (hc : X.calm = true) : FCall X E (.type "dict") gDictP := by
  refine ⟨_, call_dictP hc, fun ρ H T us xs Q s r h => ?_⟩
  unfold gDictP at h
  split at h
  · rename_i k
    split at h
    · rename_i ys e
      split at h
      · rename_i ps ep
        split at h
        · rename_i hn
          match r with
          | .cons (.ob ea) .nil =>
            obtain ⟨b, p, vs, f1, rs⟩ := s.get e
            rw [ea] at p
            cases p
            obtain ⟨as, kvs, h1, h2, h3⟩ := prI_ok rs ep
            subst h1
            refine ⟨_, as, kvs, rfl, SqL.of f1, h2, fun p n => ?_⟩
            have hk : kvs.map (·.1) = (ps.map (·.1)).map Sum.inl := by
              clear hn h h2 f1 rs ep
              induction h3 with
              | nil => rfl
              | cons a _ ih => rw [List.map_cons, List.map_cons, List.map_cons, ih, a.1]
            have hm : mergeK [] kvs = kvs := by
              rw [merge_new kvs [] ?_]
              · rfl
              · rw [List.nil_append, hk]
                exact List.Pairwise.map _ (fun a b hab e => hab (Sum.inl.inj e)) hn
            rw [hm]
            have g := Gr.new (K := X.K) (ρ := ρ) (x := .dK kvs) n
            refine h (ρ ++ [p]) _ (.ref p) g (s.new n (.inl ⟨kvs, upd_same, ?_⟩)) (.ob (by rw [← s.len, List.getElem?_append_right (Nat.le_refl _), Nat.sub_self]; rfl))
            exact pr_gr g h3
        · exact False.elim h
      · exact False.elim h
    · exact False.elim h
  · exact False.elim h
/-! ### a number in a dict of numbers -/
def hasI (kvs : List (U × U)) (i : Int) : Bool := kvs.any fun p => match p.1 with
  | .int j => decide (j = i)
  | _ => false
def gInDic : U → U → M U := fun u w T => match u, w with
  | .int i, .ob k => match T[k]? with
    | some (.dic ((.int j, v) :: r)) => .ok (.bl (hasI ((.int j, v) :: r) i)) T
    | _ => .no
  | _, _ => .no
theorem op_inDic {X : Cx} (hu : X.A.units + 1 < cLine) : OpR X (compareOp .In) (fun x y H Q => ∃ (i : Int) (a : Addr) (kvs : List (Key × V)), x = .int i ∧ y = .ref a ∧ H a = some (.dK kvs) ∧ Q (.bl (valV kvs (.inl i)).isSome) H) := by
  intro pins s σ H x y v u Q I rx ry h
  obtain ⟨i, a, kvs, rfl, rfl, e, q⟩ := h
  cases ry
  exact d_in hu I (DGet.k (k := .inl i) e) rx fun s' I' => ⟨.bl _, H, I', rfl, q⟩
theorem hasI_ok {K : PySem.W.Frag} {ρ : List Addr} {H : Hp} {i : Int} {kvs : List (U × U)} {ks : List (Key × V)} (h : Paired (fun (p : U × U) (q : Key × V) => p.1 = kU q.1 ∧ RV K ρ H p.2 q.2) kvs ks) : (valV ks (.inl i)).isSome = hasI kvs i := by
  induction h with
  | nil => rfl
  | @cons p q ps qs a _ ih =>
    obtain ⟨p1, p2⟩ := p
    obtain ⟨q1, q2⟩ := q
    obtain ⟨a1, _⟩ := a
    dsimp only at a1
    subst a1
    unfold valV at ih ⊢
    rw [List.find?_cons]
    show _ = ((match kU q1 with
      | .int j => decide (j = i)
      | _ => false) || hasI ps i)
    cases q1 with
    | inl j =>
      by_cases hj : j = i
      · subst hj
        simp [kU]
      · have : decide ((Sum.inl j : Key) = Sum.inl i) = false := decide_eq_false fun e => hj (Sum.inl.inj e)
        simp only [this]
        rw [ih]
        simp [kU, hj]
    | inr x =>
      have : decide ((Sum.inr x : Key) = Sum.inl i) = false := decide_eq_false fun e => nomatch e
      simp only [this]
      rw [ih]
      simp [kU]
theorem fop_inDic {X : Cx} {E : XK} (hu : X.A.units + 64 < cLine) : FOp X E (compareOp .In) gInDic := by
  refine ⟨_, op_inDic (by omega), fun ρ H T u w x y Q s ru rw h => ?_⟩
  unfold gInDic at h
  split at h
  · rename_i i k
    split at h
    · rename_i j v r e
      cases ru
      cases rw with
      | @ob _ a ea =>
        obtain ⟨b, p, ro⟩ := s.get e
        rw [ea] at p
        cases p
        rcases ro with ⟨ks, f1, hp⟩ | ⟨ks, f1, hp⟩
        · refine ⟨i, _, ks, rfl, rfl, f1, ?_⟩
          rw [hasI_ok hp]
          exact okV s h (.bl _)
        · cases hp with
          | @cons _ q _ _ a _ => exact nomatch a.1
    · exact False.elim h
  · exact False.elim h
theorem v_inDic {i : Int} {k : Nat} {j : Int} {v : U} {r : List (U × U)} {T : Sto} {Q : U → Sto → Prop} (e : T[k]? = some (.dic ((.int j, v) :: r))) (q : Q (.bl (hasI ((.int j, v) :: r) i)) T) : Wp (gInDic (.int i) (.ob k) T) Q := by
  unfold gInDic
  simp only [e]
  exact .ok q
end Lf


set_option Elab.async false
set_option linter.all false
set_option maxRecDepth 100000
set_option maxHeartbeats 4000000
/-! ## texts of values that hold dicts; stores that keep what they hold -/
namespace Lf
open PySem PySem.Spec L2
/-- what lists and dicts T holds, T' holds too -/
def Kp (T T' : Sto) : Prop := (∀ (j : Nat) (xs : List U), T[j]? = some (O.lst xs) → T'[j]? = some (O.lst xs)) ∧ (∀ (j : Nat) (xs : List (U × U)), T[j]? = some (O.dic xs) → T'[j]? = some (O.dic xs))
theorem Kp.refl (T : Sto) : Kp T T := ⟨fun _ _ h => h, fun _ _ h => h⟩
theorem Kp.trans {T1 T2 T3 : Sto} (a : Kp T1 T2) (b : Kp T2 T3) : Kp T1 T3 := ⟨fun j xs h => b.1 j xs (a.1 j xs h), fun j xs h => b.2 j xs (a.2 j xs h)⟩
theorem Kp.app (T os : Sto) : Kp T (T ++ os) :=
  ⟨fun j xs h => by rw [List.getElem?_append_left (List.getElem?_eq_some_iff.mp h).1]; exact h, fun j xs h => by rw [List.getElem?_append_left (List.getElem?_eq_some_iff.mp h).1]; exact h⟩
/-- the store without what stands at i -/
def msk (i : Nat) (T : Sto) : Sto := T.set i (.exc Str.empty [])
theorem msk_ne {i j : Nat} {T : Sto} (h : j ≠ i) : (msk i T)[j]? = T[j]? := List.getElem?_set_ne (Ne.symm h)
theorem msk_at {i j : Nat} {T : Sto} {o : O} (h : (msk i T)[j]? = some o) (ho : ∀ C fs, o ≠ .exc C fs) : j ≠ i ∧ T[j]? = some o := by
  by_cases e : j = i
  · subst e
    exfalso
    unfold msk at h
    rw [List.getElem?_set] at h
    simp only [if_true] at h
    split at h
    · cases h; exact ho _ _ rfl
    · cases h
  · rw [msk_ne e] at h
    exact ⟨e, h⟩
theorem Kp.msk {i : Nat} {T : Sto} : Kp (msk i T) T := ⟨fun j xs h => (msk_at h fun _ _ z => nomatch z).2, fun j xs h => (msk_at h fun _ _ z => nomatch z).2⟩
theorem Ext.msk {i : Nat} {T T' : Sto} (e : Ext i T T') : Kp (Lf.msk i T) (Lf.msk i T') :=
  ⟨fun j xs h => by
    obtain ⟨h1, h2⟩ := msk_at h fun _ _ z => nomatch z
    rw [msk_ne h1]
    exact e.at_ h2 h1, fun j xs h => by
    obtain ⟨h1, h2⟩ := msk_at h fun _ _ z => nomatch z
    rw [msk_ne h1]
    exact e.at_ h2 h1⟩
theorem tyU_kp {T T' : Sto} (k : Kp T T') {u : U} {n : String} (h : tyU T u = some n) : tyU T' u = some n := by
  cases u with
  | ob i =>
    have h : (match T[i]? with
      | some (O.lst _) => some "list"
      | some (O.dic _) => some "dict"
      | _ => none) = some n := h
    show (match T'[i]? with
      | some (O.lst _) => some "list"
      | some (O.dic _) => some "dict"
      | _ => none) = some n
    split at h
    · rename_i xs e
      rw [k.1 _ _ e]; exact h
    · rename_i xs e
      rw [k.2 _ _ e]; exact h
    · cases h
  | _ => exact h
theorem datD_kp {T T' : Sto} (k : Kp T T') : ∀ (n : Nat) (u : U) (d : PyData), datD T n u = some d → datD T' n u = some d := by
  intro n
  induction n with
  | zero =>
    intro u d e
    cases u <;> exact e
  | succ n ih =>
    have all : ∀ (xs : List U) (ds : List PyData), dats (datD T n) xs = some ds → dats (datD T' n) xs = some ds := by
      intro xs
      induction xs with
      | nil => intro ds e; exact e
      | cons x xs ihx =>
        intro ds e
        unfold dats at e
        split at e
        · rename_i d ds' e1 e2
          cases e
          exact dats_cons (ih x d e1) (ihx ds' e2)
        · cases e
    intro u d e
    cases u with
    | tup xs =>
      obtain ⟨ds, e1, rfl⟩ := Option.map_eq_some_iff.mp (show (dats (datD T n) xs).map PyData.tuple = some d from e)
      show (dats (datD T' n) xs).map PyData.tuple = _
      rw [all xs ds e1]; rfl
    | ob i =>
      have e : (match T[i]? with
        | some (.lst xs) => (dats (datD T n) xs).map PyData.list
        | some (.dic kvs) => match keysD kvs, dats (datD T n) (kvs.map fun p : U × U => p.2) with
          | some ks, some vs => some (.dict (ks.zip vs))
          | _, _ => none
        | _ => none) = some d := e
      show (match T'[i]? with
        | some (.lst xs) => (dats (datD T' n) xs).map PyData.list
        | some (.dic kvs) => match keysD kvs, dats (datD T' n) (kvs.map fun p : U × U => p.2) with
          | some ks, some vs => some (.dict (ks.zip vs))
          | _, _ => none
        | _ => none) = some d
      split at e
      · rename_i xs ex
        obtain ⟨ds, e1, rfl⟩ := Option.map_eq_some_iff.mp e
        rw [k.1 _ _ ex]
        show (dats (datD T' n) xs).map PyData.list = _
        rw [all xs ds e1]; rfl
      · rename_i kvs ex
        split at e
        · rename_i as bs e1 e2
          cases e
          rw [k.2 _ _ ex]
          simp only [e1, all _ _ e2]
        · cases e
      · cases e
    | _ => exact e
/-- a value whose text can be told, dicts among what it holds -/
def RpD (T : Sto) (u : U) (k b : Nat) : Prop := ∃ d, (∀ n, k ≤ n → datD T n u = some d) ∧ d.showable = true ∧ d.depth ≤ k ∧ d.leavesShort 1930 = true ∧ d.bulk ≤ b ∧ ∀ ns, u ≠ .scr ns
def shwD (T : Sto) (u : U) : Str := match datD T 66 u with
  | some d => d.shown
  | none => Str.empty
theorem RpD.kp {T T' : Sto} {u : U} {k b : Nat} (h : RpD T u k b) (e : Kp T T') : RpD T' u k b :=
  let ⟨d, h1, h2⟩ := h; ⟨d, fun n hn => datD_kp e n u d (h1 n hn), h2⟩
theorem RpD.mono {T : Sto} {u : U} {k b k' b' : Nat} (h : RpD T u k b) (hk : k ≤ k') (hb : b ≤ b') : RpD T u k' b' :=
  let ⟨d, h1, h2, h4, h5, h6, h7⟩ := h; ⟨d, fun n hn => h1 n (Nat.le_trans hk hn), h2, Nat.le_trans h4 hk, h5, Nat.le_trans h6 hb, h7⟩
section
variable {T : Sto}
theorem RpD.int {i : Int} (h : i.natAbs.log2 < 1920) : RpD T (.int i) 0 0 := by
  refine ⟨.int i, fun n _ => by cases n <;> rfl, by simp [PyData.showable, h], Nat.le_of_eq rfl, ?_, Nat.le_of_eq rfl, fun _ => U.noConfusion⟩
  simp only [PyData.leavesShort, decide_eq_true_eq]
  exact Nat.le_trans (PyProof.Rows.int_text_len_1921 h) (by decide)
theorem RpD.sm {i : Int} (h : Sm i) : RpD T (.int i) 0 0 := .int (by have := log2_small h; omega)
theorem RpD.non : RpD T .non 0 0 := ⟨.none, fun n _ => by cases n <;> rfl, rfl, Nat.le_of_eq rfl, rfl, Nat.le_of_eq rfl, fun _ => U.noConfusion⟩
theorem RpD.bl (b : Bool) : RpD T (.bl b) 0 0 := ⟨.bool b, fun n _ => by cases n <;> rfl, rfl, Nat.le_of_eq rfl, rfl, Nat.le_of_eq rfl, fun _ => U.noConfusion⟩
theorem short_str {x : Str} (h : PyData.strOk x = true) : PyData.leavesShort 1930 (.str x) = true := by
  unfold PyData.strOk at h
  simp only [PyData.leavesShort, List.all_eq_true, decide_eq_true_eq]
  intro c hc
  rw [Array.all_eq_true] at h
  obtain ⟨i, hi, rfl⟩ := List.mem_iff_getElem.mp hc
  have := h i (by simpa using hi)
  simp only [decide_eq_true_eq] at this
  rw [Array.getElem_toList]
  omega
theorem RpD.str {x : Str} (h : PyData.strOk x = true) : RpD T (.str x) 0 x.cps.size :=
  ⟨.str x, fun n _ => by cases n <;> rfl, rfl, Nat.le_of_eq rfl, short_str h, Nat.le_of_eq rfl, fun _ => U.noConfusion⟩
def RpDs (T : Sto) (us : List U) (k b : Nat) : Prop := ∃ ds, (∀ n, k ≤ n → dats (datD T n) us = some ds) ∧ PyData.showableAll ds = true ∧ PyData.depthAll ds ≤ k ∧ PyData.leavesShortAll 1930 ds = true ∧ PyData.bulkAll ds ≤ b
theorem RpDs.nil {k : Nat} : RpDs T [] k 0 := ⟨[], fun _ _ => rfl, rfl, Nat.zero_le _, rfl, Nat.le_of_eq rfl⟩
theorem RpDs.cons {u : U} {us : List U} {k b c : Nat} (h : RpD T u k b) (h2 : RpDs T us k c) : RpDs T (u :: us) k (b + 1 + c) := by
  obtain ⟨d, a1, a2, a4, a5, a6, _⟩ := h
  obtain ⟨ds, b1, b2, b4, b5, b6⟩ := h2
  refine ⟨d :: ds, fun n hn => dats_cons (a1 n hn) (b1 n hn), ?_, ?_, ?_, ?_⟩
  · simp only [PyData.showableAll, a2, b2, Bool.and_self]
  · simp only [PyData.depthAll]; omega
  · simp only [PyData.leavesShortAll, a5, b5, Bool.and_self]
  · simp only [PyData.bulkAll]; omega
theorem RpD.tup {us : List U} {k b : Nat} (h : RpDs T us k b) : RpD T (.tup us) (k + 1) b := by
  obtain ⟨ds, b1, b2, b4, b5, b6⟩ := h
  refine ⟨.tuple ds, fun n hn => ?_, ?_, ?_, ?_, ?_, fun _ => U.noConfusion⟩
  · obtain ⟨n, rfl⟩ : ∃ m, n = m + 1 := ⟨n - 1, by omega⟩
    show (dats (datD T n) us).map PyData.tuple = _
    rw [b1 n (by omega)]; rfl
  · simpa only [PyData.showable] using b2
  · simp only [PyData.depth]; omega
  · simpa only [PyData.leavesShort] using b5
  · simpa only [PyData.bulk] using b6
theorem RpD.ob {us : List U} {i k b : Nat} (e : T[i]? = some (.lst us)) (h : RpDs T us k b) : RpD T (.ob i) (k + 1) b := by
  obtain ⟨ds, b1, b2, b4, b5, b6⟩ := h
  refine ⟨.list ds, fun n hn => ?_, ?_, ?_, ?_, ?_, fun _ => U.noConfusion⟩
  · obtain ⟨n, rfl⟩ : ∃ m, n = m + 1 := ⟨n - 1, by omega⟩
    show (match T[i]? with
      | some (.lst xs) => (dats (datD T n) xs).map PyData.list
      | some (.dic kvs) => match keysD kvs, dats (datD T n) (kvs.map fun p : U × U => p.2) with
        | some ks, some vs => some (.dict (ks.zip vs))
        | _, _ => none
      | _ => none) = _
    rw [e]
    show (dats (datD T n) us).map PyData.list = _
    rw [b1 n (by omega)]; rfl
  · simpa only [PyData.showable] using b2
  · simp only [PyData.depth]; omega
  · simpa only [PyData.leavesShort] using b5
  · simpa only [PyData.bulk] using b6
theorem RpD.dic0 {i : Nat} (e : T[i]? = some (.dic [])) : RpD T (.ob i) 1 0 := by
  refine ⟨.dict [], fun n hn => ?_, rfl, Nat.le_of_eq rfl, rfl, Nat.le_of_eq rfl, fun _ => U.noConfusion⟩
  obtain ⟨n, rfl⟩ : ∃ m, n = m + 1 := ⟨n - 1, by omega⟩
  show (match T[i]? with
    | some (.lst xs) => (dats (datD T n) xs).map PyData.list
    | some (.dic kvs) => match keysD kvs, dats (datD T n) (kvs.map fun p : U × U => p.2) with
      | some ks, some vs => some (.dict (ks.zip vs))
      | _, _ => none
    | _ => none) = _
  rw [e]; rfl
/-- a dict whose keys are texts -/
def RpKs (T : Sto) (kvs : List (U × U)) (k b : Nat) : Prop := ∃ ks vs, keysD kvs = some ks ∧ (∀ n, k ≤ n → dats (datD T n) (kvs.map fun p : U × U => p.2) = some vs) ∧ PyData.showableKv (ks.zip vs) = true ∧ PyData.depthKv (ks.zip vs) ≤ k ∧ PyData.leavesShortKv 1930 (ks.zip vs) = true ∧ PyData.bulkKv (ks.zip vs) ≤ b
theorem RpKs.nil {k : Nat} : RpKs T [] k 0 := ⟨[], [], rfl, fun _ _ => rfl, rfl, Nat.zero_le _, rfl, Nat.le_of_eq rfl⟩
theorem RpKs.cons {x : Str} {v : U} {r : List (U × U)} {k b c : Nat} (hx : PyData.strOk x = true) (h : RpD T v k b) (h2 : RpKs T r k c) : RpKs T ((.str x, v) :: r) k (x.cps.size + b + 2 + c) := by
  obtain ⟨d, a1, a2, a4, a5, a6, _⟩ := h
  obtain ⟨ks, vs, c1, b1, b2, b4, b5, b6⟩ := h2
  refine ⟨.str x :: ks, d :: vs, ?_, fun n hn => dats_cons (a1 n hn) (b1 n hn), ?_, ?_, ?_, ?_⟩
  · show (keysD r).map (PyData.str x :: ·) = _
    rw [c1]; rfl
  · show (PyData.showable (.str x) && d.showable && PyData.showableKv (ks.zip vs)) = true
    rw [a2, b2]; rfl
  · show max (max (PyData.depth (.str x)) d.depth) (PyData.depthKv (ks.zip vs)) ≤ k
    have : PyData.depth (.str x) = 0 := rfl
    omega
  · show (PyData.leavesShort 1930 (.str x) && d.leavesShort 1930 && PyData.leavesShortKv 1930 (ks.zip vs)) = true
    rw [a5, b5, short_str hx]; rfl
  · show PyData.bulk (.str x) + d.bulk + 2 + PyData.bulkKv (ks.zip vs) ≤ _
    have : PyData.bulk (.str x) = x.cps.size := rfl
    omega
theorem RpD.dic {kvs : List (U × U)} {i k b : Nat} (e : T[i]? = some (.dic kvs)) (h : RpKs T kvs k b) : RpD T (.ob i) (k + 1) b := by
  obtain ⟨ks, vs, c1, b1, b2, b4, b5, b6⟩ := h
  refine ⟨.dict (ks.zip vs), fun n hn => ?_, ?_, ?_, ?_, ?_, fun _ => U.noConfusion⟩
  · obtain ⟨n, rfl⟩ : ∃ m, n = m + 1 := ⟨n - 1, by omega⟩
    show (match T[i]? with
      | some (.lst xs) => (dats (datD T n) xs).map PyData.list
      | some (.dic kvs) => match keysD kvs, dats (datD T n) (kvs.map fun p : U × U => p.2) with
        | some ks, some vs => some (.dict (ks.zip vs))
        | _, _ => none
      | _ => none) = _
    rw [e]
    simp only [c1, b1 n (by omega)]
  · simpa only [PyData.showable] using b2
  · simp only [PyData.depth]; omega
  · simpa only [PyData.leavesShort] using b5
  · simpa only [PyData.bulk] using b6
theorem v_reprRD {u : U} {k b : Nat} {Q : U → Sto → Prop} (h : RpD T u k b) (hk : k ≤ 64) (hb : b ≤ 8000) (q : Q (.str (shwD T u)) T) : Wp (gReprD [u] T) Q := by
  obtain ⟨d, h1, h2, h4, h5, h6, h7⟩ := h
  have e := h1 66 (by omega)
  have hl := PyData.shown_le_bulk 1930 (by decide) d h5
  have hl2 : (1930 + 2) * d.bulk ≤ (1930 + 2) * 8000 := Nat.mul_le_mul_left _ (by omega)
  have es : shwD T u = d.shown := by unfold shwD; rw [e]
  rw [es] at q
  cases u with
  | non => cases e; exact .ok q
  | bl b => cases e; exact .ok q
  | int i =>
    cases e
    show Wp (gRepr [.int i] T) Q
    unfold gRepr
    simp only [PyData.showable, decide_eq_true_eq] at h2
    simp only [h2, if_true]
    exact .ok q
  | str x =>
    cases e
    have hl : (reprText x).length ≤ (1930 + 2) * (PyData.str x).bulk + 1930 := hl
    show Wp (gRepr [.str x] T) Q
    unfold gRepr
    simp only []
    rw [if_pos (by omega)]
    exact .ok q
  | tup xs => exact v_reprT e ⟨h2, by omega, by omega⟩ q
  | ob j => exact v_reprO e ⟨h2, by omega, by omega⟩ q
  | scr ns => exact absurd rfl (h7 ns)
  | raw v => cases e
end
theorem v_dic0 {η : Lo} {T : Sto} {Q : U → Sto → Prop} (q : Q (.ob T.length) (T ++ [.dic []])) : Wp (fDic0 η T) Q := .ok q
theorem v_dic1 {k : Str} {Fv : FxE} {η : Lo} {T : Sto} {Q : U → Sto → Prop} (q : Wp (Fv η T) fun u T1 => Q (.ob T1.length) (T1 ++ [.dic [(.str k, u)]])) : Wp (fDic1 k Fv η T) Q := .bindE q fun _ _ q => .ok q
theorem v_dictP {k : Nat} {xs : List U} {ps : List (Int × U)} {T : Sto} {Q : U → Sto → Prop} (e : T[k]? = some (.lst xs)) (e2 : prI xs = some ps) (h : (ps.map (·.1)).Nodup) (q : Q (.ob T.length) (T ++ [.dic (ps.map fun p => (.int p.1, p.2))])) : Wp (gDictP [.ob k] T) Q := by
  unfold gDictP
  simp only [e, e2]
  rw [if_pos h]
  exact .ok q
theorem prI_map {α : Type} (f : α → Int) (g : α → U) : ∀ xs : List α, prI (xs.map fun x => .tup [.int (f x), g x]) = some (xs.map fun x => (f x, g x))
  | [] => rfl
  | x :: xs => by
    rw [List.map_cons, List.map_cons]
    unfold prI
    rw [prI_map f g xs]
    rfl
theorem rgU_cons (i : Int) (n : Nat) : rgU i (n + 1) = .int i :: rgU (i + 1) n := by
  apply List.ext_getElem
  · rw [rgU_len, List.length_cons, rgU_len]
  · intro j h1 h2
    cases j with
    | zero => simp [rgU]
    | succ j => simp [rgU]; omega
end Lf


set_option Elab.async false
set_option linter.all false
set_option maxRecDepth 100000
set_option maxHeartbeats 0
/-! the head: where each def stands, read off the run of the top -/
namespace Hd
open PySem PySem.Spec PyProof.Rows L2
def tp (i : Nat) : Stmt := PySem.Challenge.pw_leastjournal_k01_primes_of_any_value.main.body.getD i (.Pass ⟨0, 0, 0, 0⟩)
def d_is_within : He.DefD := ⟨("is_within", none), "is_within", "is_within", defArgs (tp 3), defBody (tp 3), defScope (tp 3), [], []⟩
def d_is_prime : He.DefD := ⟨("is_prime", none), "is_prime", "is_prime", defArgs (tp 4), defBody (tp 4), defScope (tp 4), [], []⟩
def d__law_urn : He.DefD := ⟨("_law_urn", none), "_law_urn", "_law_urn", defArgs (tp 6), defBody (tp 6), defScope (tp 6), [], []⟩
def d__law_take : He.DefD := ⟨("_law_take", none), "_law_take", "_law_take", defArgs (tp 7), defBody (tp 7), defScope (tp 7), [], []⟩
def d__law_of : He.DefD := ⟨("_law_of", none), "_law_of", "_law_of", defArgs (tp 8), defBody (tp 8), defScope (tp 8), [], []⟩
def d__law_sieve : He.DefD := ⟨("_law_sieve", none), "_law_sieve", "_law_sieve", defArgs (tp 9), defBody (tp 9), defScope (tp 9), [], []⟩
def d__law_odd : He.DefD := ⟨("_law_odd", none), "_law_odd", "_law_odd", defArgs (tp 10), defBody (tp 10), defScope (tp 10), [], []⟩
def d_law : He.DefD := ⟨("law", none), "law", "law", defArgs (tp 11), defBody (tp 11), defScope (tp 11), [], []⟩
def fn : List He.DefD := [d_is_within, d_is_prime, d__law_urn, d__law_take, d__law_of, d__law_sieve, d__law_odd, d_law]
def fa : List He.Fa := [.glo "is_within", .glo "is_prime", .glo "_law_urn", .glo "_law_take", .glo "_law_of", .glo "_law_sieve", .glo "_law_odd", .glo "law", .free "abs", .free "all", .free "bool", .free "dict", .free "int", .free "isinstance", .free "len", .free "max", .free "min", .free "range", .free "repr", .int "LEAST_PRIME" (2), .int "GREATEST_PRIME" (10007)]
def loose0 : List PySem.Str := ["LEAST_PRIME", "GREATEST_PRIME", "is_within", "is_prime", "_law_urn", "_law_take", "_law_of", "_law_sieve", "_law_odd"]
def loose : List PySem.Str := loose0
def steps : Nat := 20000
abbrev Rr : PySem.W.OpenRow := PySem.W.OpenLaw.row PySem.Challenge.rw_leastjournal_k01_primes_of_any_value
open Lf in
def fxs : List (PySem.W.Frag → Bool) := [fun K => sysB K]
def fx (K : PySem.W.Frag) : Bool := fxs.all fun f => f K
abbrev hk : PySem.W.Hook := Lf.hookS 5 fa fn fx
def ob (s : PySem.W.SharedT) : Bool × He.AlD := Lf.obsS 5 fa fn fx (HandSHeadRun.getT s)
theorem ob_eq (s : PySem.W.SharedT) : ob s = hk.obs s.abs := Lf.obsS_eq (HandSHeadRun.getT_eq s)
theorem run (w : World) : HandSHeadRun.RunEq Rr (PySem.W.view Rr.prog [11]) hk ob steps loose w := by
  intro os
  kernel_rfl
end Hd


set_option Elab.async false
set_option linter.all false
set_option maxRecDepth 100000
set_option maxHeartbeats 0
namespace Fn
open PySem PySem.Spec L2 Lf
/-- the names that the top leaves alone, and its constants -/
structure Mf (P : Program) (w : World) (K : PySem.W.Frag) (mg : Str → Option Value) (base : Heap) : Prop where
  sysm : sysB K = true
  m_abs : mg "abs" = none
  m_all : mg "all" = none
  m_bool : mg "bool" = none
  m_dict : mg "dict" = none
  m_int : mg "int" = none
  m_isinstance : mg "isinstance" = none
  m_len : mg "len" = none
  m_max : mg "max" = none
  m_min : mg "min" = none
  m_range : mg "range" = none
  m_repr : mg "repr" = none
  c_LEAST_PRIME : ∃ t, mg "LEAST_PRIME" = some (.int 2 t)
  c_GREATEST_PRIME : ∃ t, mg "GREATEST_PRIME" = some (.int 10007 t)
namespace Bt
theorem abs : bootBuiltins "abs" = some (.builtin "abs") := by decide +kernel
theorem all : bootBuiltins "all" = some (.builtin "all") := by decide +kernel
theorem dict : bootBuiltins "dict" = some (.type "dict") := by decide +kernel
theorem int : bootBuiltins "int" = some (.type "int") := by decide +kernel
theorem isinstance : bootBuiltins "isinstance" = some (.builtin "isinstance") := by decide +kernel
theorem len : bootBuiltins "len" = some (.builtin "len") := by decide +kernel
theorem max : bootBuiltins "max" = some (.builtin "max") := by decide +kernel
theorem min : bootBuiltins "min" = some (.builtin "min") := by decide +kernel
theorem repr : bootBuiltins "repr" = some (.builtin "repr") := by decide +kernel
end Bt
/-! is_within -/
def f_is_within : FxS :=
  fRet (fAndV (fCall gIsi (fCons (fVar 0) (fCons (fC (.raw (.ty "int"))) (fNil)))) (fAndV (fNotV (fCall gIsi (fCons (fVar 0) (fCons (fC (.raw (.ty "bool"))) (fNil))))) (fChain gLe gLe (fVar 1) (fVar 0) (fVar 2))))
def g_is_within : List U → M U := gDef 3 f_is_within
abbrev N_is_within : List Str := ["value", "low", "high"]
theorem sc_is_within : FnScope N_is_within ["value", "low", "high"] Hd.d_is_within.scope := ⟨rfl, rfl, rfl, by decide +kernel, rfl, by decide +kernel, by decide +kernel⟩
theorem b_is_within {P : Program} {w : World} {K : PySem.W.Frag} {mg : Str → Option Value} {base : Heap} (mf : Mf P w K mg base)  {f : Addr} {cv : Value} {A : Around} {fr : List Env} {s : Shared} {H : Hp} {E : XK} (hr0 : Room 1 (A.deeper (PyProof.Rows.envOfC "is_within" Hd.d_is_within.scope s.heap.objs.size f cv))) (gd : A.guards = some []) :
    FSs (cxOf CX0 P w K mg base N_is_within "is_within" Hd.d_is_within.scope f cv A fr s H E).nox E Hd.d_is_within.body f_is_within := by
  have sc := sc_is_within
  have hr : Room 1 (cxOf CX0 P w K mg base N_is_within "is_within" Hd.d_is_within.scope f cv A fr s H E).nox.A := hr0
  exact (fss_one (fs_ret (fe_and (fe_callB fcl_isi (by rfl) mf.m_isinstance Bt.isinstance (fa_cons (fe_var 0) (fa_cons (fe_ty (by rfl) mf.m_int PyProof.Rows.boot_int) fa_nil))) (fe_and (fe_not (fe_callB fcl_isi (by rfl) mf.m_isinstance Bt.isinstance (fa_cons (fe_var 0) (fa_cons (fe_ty (by rfl) mf.m_bool PyProof.Rows.boot_bool) fa_nil)))) (fe_one (fe_chain fop_le fop_le (fe_var 1) (fe_var 0) (fe_var 2)))))))
theorem ok_is_within {P : Program} {w : World} {K : PySem.W.Frag} {mg : Str → Option Value} {base : Heap} (mf : Mf P w K mg base)  {f : Addr} {fd : FuncData} (hm : mg "is_within" = some (.ref f)) (D : FunD K "is_within" "is_within" Hd.d_is_within.params Hd.d_is_within.body Hd.d_is_within.scope [] [] f fd) : Dok P w K mg base "is_within" 2 ["value", "low", "high"] [] g_is_within :=
  .of (fnG_of (N := N_is_within) (F := f_is_within) D sc_is_within fun cv A fr s H E hr gd => (b_is_within mf  hr gd).nox) hm D (fun _ _ _ _ _ _ us hl => match us, hl with | [_, _, _], _ => rfl) (fun q hq => nomatch hq)
/-! is_prime -/
def f_is_prime : FxS :=
  fSeq (fIf (fNot (fTru (fCall (kdG .len 3 g_is_within) (fCons (fVar 0) (fCons (fC (.int 2)) (fCons (fC (.int 10007)) (fNil))))))) (fRet (fC (.bl false))) (fSkip)) (fSeq (fSet 1 (fC (.int 2))) (fSeq (fWhile 1000000 (fBl (fBin gLe (fBin gMul (fVar 1) (fVar 1)) (fVar 0))) (fSeq (fIf (fBl (fBin (gEq false) (fBin gMod (fVar 0) (fVar 1)) (fC (.int 0)))) (fRet (fC (.bl false))) (fSkip)) (fAug 1 gIAdd (fC (.int 1))))) (fRet (fC (.bl true)))))
def g_is_prime : List U → M U := gDef 2 f_is_prime
abbrev N_is_prime : List Str := ["value", "divisor"]
theorem sc_is_prime : FnScope N_is_prime ["value"] Hd.d_is_prime.scope := ⟨rfl, rfl, rfl, by decide +kernel, rfl, by decide +kernel, by decide +kernel⟩
theorem b_is_prime {P : Program} {w : World} {K : PySem.W.Frag} {mg : Str → Option Value} {base : Heap} (mf : Mf P w K mg base) (D_is_within : Dok P w K mg base "is_within" 2 ["value", "low", "high"] [] g_is_within) {f : Addr} {cv : Value} {A : Around} {fr : List Env} {s : Shared} {H : Hp} {E : XK} (hr0 : Room 2 (A.deeper (PyProof.Rows.envOfC "is_prime" Hd.d_is_prime.scope s.heap.objs.size f cv))) (gd : A.guards = some []) :
    FSs (cxOf CX0 P w K mg base N_is_prime "is_prime" Hd.d_is_prime.scope f cv A fr s H E).nox E Hd.d_is_prime.body f_is_prime := by
  have sc := sc_is_prime
  have hr : Room 2 (cxOf CX0 P w K mg base N_is_prime "is_prime" Hd.d_is_prime.scope f cv A fr s H E).nox.A := hr0
  exact (fss_cons (fs_if (ft_not (ft_tru (fe_def .len D_is_within (by exact hr) (by rfl) (by exact gd) (by rfl) (fa_cons (fe_var 0) (fa_cons (fe_gint (by rfl) mf.c_LEAST_PRIME.choose_spec) (fa_cons (fe_gint (by rfl) mf.c_GREATEST_PRIME.choose_spec) fa_nil)))))) (fss_one (fs_ret fe_bl)) fss_nil) (fss_cons (fs_set (i := 1) sc.nd rfl (by first | exact .inl rfl | exact .inr rfl) fe_int) (fss_cons (fs_while 1000000 .never (ft_cmp fop_le (fe_op fop_mul (fe_var 1) (fe_var 1)) (fe_var 0)) (fss_cons (fs_if (ft_cmp (fop_eq (by exact hr.units)) (fe_op fop_mod (fe_var 0) (fe_var 1)) fe_int) (fss_one (fs_ret fe_bl)) fss_nil) (fss_one (fs_aug (i := 1) sc.nd rfl (by first | exact .inl rfl | exact .inr rfl) fop_iadd fe_int)))) (fss_one (fs_ret fe_bl)))))
theorem ok_is_prime {P : Program} {w : World} {K : PySem.W.Frag} {mg : Str → Option Value} {base : Heap} (mf : Mf P w K mg base) (D_is_within : Dok P w K mg base "is_within" 2 ["value", "low", "high"] [] g_is_within) {f : Addr} {fd : FuncData} (hm : mg "is_prime" = some (.ref f)) (D : FunD K "is_prime" "is_prime" Hd.d_is_prime.params Hd.d_is_prime.body Hd.d_is_prime.scope [] [] f fd) : Dok P w K mg base "is_prime" 3 ["value"] [(["value"], [0])] g_is_prime :=
  .of (fnG_of (N := N_is_prime) (F := f_is_prime) D sc_is_prime fun cv A fr s H E hr gd => (b_is_prime mf D_is_within hr gd).nox) hm D (fun _ _ _ _ _ _ us hl => match us, hl with | [_], _ => rfl) (by
    intro q hq
    simp only [List.mem_cons, List.not_mem_nil, or_false] at hq
    rcases hq with rfl
    all_goals exact fun _ _ _ _ _ _ ws hl => match ws, hl with | [_], _ => rfl)
/-! _law_urn -/
def f_law_urn : FxS :=
  fSeq (fSet 2 (fIfE (fBl (fBin gLt (fVar 1) (fCall gLen (fCons (fVar 0) (fNil))))) (fBin gIx (fVar 0) (fVar 1)) (fBin gAdd (fBin gMul (fC (.int 3)) (fVar 1)) (fC (.int 1))))) (fSeq (fSet 3 (fBin gMul (fBin gMod (fCall gAbs (fCons (fVar 2) (fNil))) (fCall gInt (fCons (fBin gAdd (fC (.str "1")) (fBin gMul (fC (.str "0")) (fC (.int 300)))) (fNil)))) (fCall gInt (fCons (fBin gGe (fCall gAbs (fCons (fVar 2) (fNil))) (fBin gPow (fC (.int 10)) (fC (.int 18)))) (fNil))))) (fRet (fLst (fCons (fVar 3) (fCons (fBin gMod (fBin gMul (fBin gAdd (fBin gAdd (fBin gMod (fVar 2) (fC (.int 2305843009213693951))) (fBin gMul (fBin gMul (fC (.int 7919)) (fVar 1)) (fVar 1))) (fC (.int 11))) (fC (.int 48271))) (fC (.int 2305843009213693951))) (fNil))))))
def g_law_urn : List U → M U := gDef 4 f_law_urn
abbrev N_law_urn : List Str := ["_law_script", "_law_k", "_law_cell", "_law_own"]
theorem sc_law_urn : FnScope N_law_urn ["_law_script", "_law_k"] Hd.d__law_urn.scope := ⟨rfl, rfl, rfl, by decide +kernel, rfl, by decide +kernel, by decide +kernel⟩
theorem b_law_urn {P : Program} {w : World} {K : PySem.W.Frag} {mg : Str → Option Value} {base : Heap} (mf : Mf P w K mg base)  {f : Addr} {cv : Value} {A : Around} {fr : List Env} {s : Shared} {H : Hp} {E : XK} (hr0 : Room 1 (A.deeper (PyProof.Rows.envOfC "_law_urn" Hd.d__law_urn.scope s.heap.objs.size f cv))) (gd : A.guards = some []) :
    FSs (cxOf CX0 P w K mg base N_law_urn "_law_urn" Hd.d__law_urn.scope f cv A fr s H E).nox E Hd.d__law_urn.body f_law_urn := by
  have sc := sc_law_urn
  have hr : Room 1 (cxOf CX0 P w K mg base N_law_urn "_law_urn" Hd.d__law_urn.scope f cv A fr s H E).nox.A := hr0
  exact (fss_cons (fs_set (i := 2) sc.nd rfl (by first | exact .inl rfl | exact .inr rfl) (fe_if (ft_cmp fop_lt (fe_var 1) (fe_callB fcl_len (by rfl) mf.m_len Bt.len (fa_cons (fe_var 0) fa_nil))) (fe_ix (fe_var 0) (fe_var 1)) (fe_op fop_add (fe_op fop_mul fe_int (fe_var 1)) fe_int))) (fss_cons (fs_set (i := 3) sc.nd rfl (by first | exact .inl rfl | exact .inr rfl) (fe_op fop_mul (fe_op fop_mod (fe_callB fcl_abs (by rfl) mf.m_abs Bt.abs (fa_cons (fe_var 2) fa_nil)) (fe_callTy fcl_int (by rfl) mf.m_int Bt.int (fa_cons (fe_op fop_add fe_str (fe_op fop_mul fe_str fe_int)) fa_nil))) (fe_callTy fcl_int (by rfl) mf.m_int Bt.int (fa_cons (fe_cmp fop_ge (fe_callB fcl_abs (by rfl) mf.m_abs Bt.abs (fa_cons (fe_var 2) fa_nil)) (fe_op fop_pow fe_int fe_int)) fa_nil)))) (fss_one (fs_ret (fe_lst (fa_cons (fe_var 3) (fa_cons (fe_op fop_mod (fe_op fop_mul (fe_op fop_add (fe_op fop_add (fe_op fop_mod (fe_var 2) fe_int) (fe_op fop_mul (fe_op fop_mul fe_int (fe_var 1)) (fe_var 1))) fe_int) fe_int) fe_int) fa_nil)))))))
theorem ok_law_urn {P : Program} {w : World} {K : PySem.W.Frag} {mg : Str → Option Value} {base : Heap} (mf : Mf P w K mg base)  {f : Addr} {fd : FuncData} (hm : mg "_law_urn" = some (.ref f)) (D : FunD K "_law_urn" "_law_urn" Hd.d__law_urn.params Hd.d__law_urn.body Hd.d__law_urn.scope [] [] f fd) : Dok P w K mg base "_law_urn" 2 ["_law_script", "_law_k"] [] g_law_urn :=
  .of (fnG_of (N := N_law_urn) (F := f_law_urn) D sc_law_urn fun cv A fr s H E hr gd => (b_law_urn mf  hr gd).nox) hm D (fun _ _ _ _ _ _ us hl => match us, hl with | [_, _], _ => rfl) (fun q hq => nomatch hq)
/-! _law_take -/
def f_law_take : FxS :=
  fSeq (fIf (fBl (fBin gGt (fBin gIx (fVar 0) (fC (.int 0))) (fC (.int 0)))) (fSeq (fSet 2 (fBin gMod (fBin gIx (fVar 0) (fC (.int 0))) (fVar 1))) (fSeq (fAsg (fBin gDiv (fBin gIx (fVar 0) (fC (.int 0))) (fVar 1)) (gSubT (fVar 0) (fC (.int 0)))) (fRet (fVar 2)))) (fSkip)) (fSeq (fAsg (fBin gMod (fBin gAdd (fBin gMul (fBin gIx (fVar 0) (fC (.int 1))) (fC (.int 1181783497276652981))) (fC (.int 12345678910987))) (fC (.int 2305843009213693951))) (gSubT (fVar 0) (fC (.int 1)))) (fSeq (fSet 3 (fBin gMod (fBin gMul (fBin gDiv (fBin gIx (fVar 0) (fC (.int 1))) (fC (.int 65537))) (fBin gAdd (fBin gMod (fBin gIx (fVar 0) (fC (.int 1))) (fC (.int 65537))) (fC (.int 3)))) (fC (.int 2305843009213693921)))) (fSeq (fIf (fBl (fBin gGt (fVar 1) (fBin gPow (fC (.int 10)) (fC (.int 9))))) (fSeq (fAsg (fBin gMod (fBin gAdd (fBin gMul (fBin gIx (fVar 0) (fC (.int 1))) (fC (.int 3202034522624059733))) (fC (.int 1))) (fC (.int 2305843009213693951))) (gSubT (fVar 0) (fC (.int 1)))) (fSet 3 (fBin gAdd (fBin gMul (fVar 3) (fC (.int 2305843009213693921))) (fBin gIx (fVar 0) (fC (.int 1)))))) (fSkip)) (fRet (fBin gMod (fBin gDiv (fVar 3) (fC (.int 97))) (fVar 1))))))
def g_law_take : List U → M U := gDef 4 f_law_take
abbrev N_law_take : List Str := ["_law_urn_here", "_law_below", "_law_digit", "_law_mixed"]
theorem sc_law_take : FnScope N_law_take ["_law_urn_here", "_law_below"] Hd.d__law_take.scope := ⟨rfl, rfl, rfl, by decide +kernel, rfl, by decide +kernel, by decide +kernel⟩
theorem b_law_take {P : Program} {w : World} {K : PySem.W.Frag} {mg : Str → Option Value} {base : Heap} (mf : Mf P w K mg base)  {f : Addr} {cv : Value} {A : Around} {fr : List Env} {s : Shared} {H : Hp} {E : XK} (hr0 : Room 1 (A.deeper (PyProof.Rows.envOfC "_law_take" Hd.d__law_take.scope s.heap.objs.size f cv))) (gd : A.guards = some []) :
    FSs (cxOf CX0 P w K mg base N_law_take "_law_take" Hd.d__law_take.scope f cv A fr s H E).nox E Hd.d__law_take.body f_law_take := by
  have sc := sc_law_take
  have hr : Room 1 (cxOf CX0 P w K mg base N_law_take "_law_take" Hd.d__law_take.scope f cv A fr s H E).nox.A := hr0
  exact (fss_cons (fs_if (ft_cmp fop_gt (fe_ix (fe_var 0) fe_int) fe_int) (fss_cons (fs_set (i := 2) sc.nd rfl (by first | exact .inl rfl | exact .inr rfl) (fe_op fop_mod (fe_ix (fe_var 0) fe_int) (fe_var 1))) (fss_cons (fs_asg (fe_op fop_div (fe_ix (fe_var 0) fe_int) (fe_var 1)) (fg_sub (fe_var 0) fe_int)) (fss_one (fs_ret (fe_var 2))))) fss_nil) (fss_cons (fs_asg (fe_op fop_mod (fe_op fop_add (fe_op fop_mul (fe_ix (fe_var 0) fe_int) fe_int) fe_int) fe_int) (fg_sub (fe_var 0) fe_int)) (fss_cons (fs_set (i := 3) sc.nd rfl (by first | exact .inl rfl | exact .inr rfl) (fe_op fop_mod (fe_op fop_mul (fe_op fop_div (fe_ix (fe_var 0) fe_int) fe_int) (fe_op fop_add (fe_op fop_mod (fe_ix (fe_var 0) fe_int) fe_int) fe_int)) fe_int)) (fss_cons (fs_if (ft_cmp fop_gt (fe_var 1) (fe_op fop_pow fe_int fe_int)) (fss_cons (fs_asg (fe_op fop_mod (fe_op fop_add (fe_op fop_mul (fe_ix (fe_var 0) fe_int) fe_int) fe_int) fe_int) (fg_sub (fe_var 0) fe_int)) (fss_one (fs_set (i := 3) sc.nd rfl (by first | exact .inl rfl | exact .inr rfl) (fe_op fop_add (fe_op fop_mul (fe_var 3) fe_int) (fe_ix (fe_var 0) fe_int))))) fss_nil) (fss_one (fs_ret (fe_op fop_mod (fe_op fop_div (fe_var 3) fe_int) (fe_var 1))))))))
theorem ok_law_take {P : Program} {w : World} {K : PySem.W.Frag} {mg : Str → Option Value} {base : Heap} (mf : Mf P w K mg base)  {f : Addr} {fd : FuncData} (hm : mg "_law_take" = some (.ref f)) (D : FunD K "_law_take" "_law_take" Hd.d__law_take.params Hd.d__law_take.body Hd.d__law_take.scope [] [] f fd) : Dok P w K mg base "_law_take" 2 ["_law_urn_here", "_law_below"] [] g_law_take :=
  .of (fnG_of (N := N_law_take) (F := f_law_take) D sc_law_take fun cv A fr s H E hr gd => (b_law_take mf  hr gd).nox) hm D (fun _ _ _ _ _ _ us hl => match us, hl with | [_, _], _ => rfl) (fun q hq => nomatch hq)
/-! _law_of -/
def f_law_of : FxS :=
  fRet (fBin gIx (fVar 1) (fCall (kdG .urn 2 g_law_take) (fCons (fVar 0) (fCons (fCall gLen (fCons (fVar 1) (fNil))) (fNil)))))
def g_law_of : List U → M U := gDef 2 f_law_of
abbrev N_law_of : List Str := ["_law_urn_here", "_law_items"]
theorem sc_law_of : FnScope N_law_of ["_law_urn_here", "_law_items"] Hd.d__law_of.scope := ⟨rfl, rfl, rfl, by decide +kernel, rfl, by decide +kernel, by decide +kernel⟩
theorem b_law_of {P : Program} {w : World} {K : PySem.W.Frag} {mg : Str → Option Value} {base : Heap} (mf : Mf P w K mg base) (D_law_take : Dok P w K mg base "_law_take" 2 ["_law_urn_here", "_law_below"] [] g_law_take) {f : Addr} {cv : Value} {A : Around} {fr : List Env} {s : Shared} {H : Hp} {E : XK} (hr0 : Room 2 (A.deeper (PyProof.Rows.envOfC "_law_of" Hd.d__law_of.scope s.heap.objs.size f cv))) (gd : A.guards = some []) :
    FSs (cxOf CX0 P w K mg base N_law_of "_law_of" Hd.d__law_of.scope f cv A fr s H E).nox E Hd.d__law_of.body f_law_of := by
  have sc := sc_law_of
  have hr : Room 2 (cxOf CX0 P w K mg base N_law_of "_law_of" Hd.d__law_of.scope f cv A fr s H E).nox.A := hr0
  exact (fss_one (fs_ret (fe_ix (fe_var 1) (fe_def .urn D_law_take (by exact hr) (by rfl) (by exact gd) (by rfl) (fa_cons (fe_var 0) (fa_cons (fe_callB fcl_len (by rfl) mf.m_len Bt.len (fa_cons (fe_var 1) fa_nil)) fa_nil))))))
theorem ok_law_of {P : Program} {w : World} {K : PySem.W.Frag} {mg : Str → Option Value} {base : Heap} (mf : Mf P w K mg base) (D_law_take : Dok P w K mg base "_law_take" 2 ["_law_urn_here", "_law_below"] [] g_law_take) {f : Addr} {fd : FuncData} (hm : mg "_law_of" = some (.ref f)) (D : FunD K "_law_of" "_law_of" Hd.d__law_of.params Hd.d__law_of.body Hd.d__law_of.scope [] [] f fd) : Dok P w K mg base "_law_of" 3 ["_law_urn_here", "_law_items"] [] g_law_of :=
  .of (fnG_of (N := N_law_of) (F := f_law_of) D sc_law_of fun cv A fr s H E hr gd => (b_law_of mf D_law_take hr gd).nox) hm D (fun _ _ _ _ _ _ us hl => match us, hl with | [_, _], _ => rfl) (fun q hq => nomatch hq)
/-! _law_sieve -/
def f_law_sieve : FxS :=
  fSeq (fSet 0 (fBin gMul (fLst (fCons (fC (.bl true)) (fNil))) (fC (.int 10008)))) (fSeq (fFor (fRg gRg2 (fCons (fC (.int 2)) (fCons (fC (.int 101)) (fNil)))) (gNm 1) (fFor (fRg gRgUp (fCons (fBin gMul (fVar 1) (fVar 1)) (fCons (fC (.int 10008)) (fCons (fVar 1) (fNil))))) (gNm 2) (fAsg (fC (.bl false)) (gSubT (fVar 0) (fVar 2))))) (fRet (fCall gDictP (fCons (fLc [1] (fRg gRg2 (fCons (fC (.int 2)) (fCons (fC (.int 10008)) (fNil)))) (gNm 1) (fTru (fBin gIx (fVar 0) (fVar 1))) (fTup (fCons (fVar 1) (fCons (fC (.bl true)) (fNil))))) (fNil)))))
def g_law_sieve : List U → M U := gDef 3 f_law_sieve
abbrev N_law_sieve : List Str := ["_law_marks", "_law_number", "_law_multiple"]
theorem sc_law_sieve : FnScope N_law_sieve [] Hd.d__law_sieve.scope := ⟨rfl, rfl, rfl, by decide +kernel, rfl, by decide +kernel, by decide +kernel⟩
theorem b_law_sieve {P : Program} {w : World} {K : PySem.W.Frag} {mg : Str → Option Value} {base : Heap} (mf : Mf P w K mg base)  {f : Addr} {cv : Value} {A : Around} {fr : List Env} {s : Shared} {H : Hp} {E : XK} (hr0 : Room 1 (A.deeper (PyProof.Rows.envOfC "_law_sieve" Hd.d__law_sieve.scope s.heap.objs.size f cv))) (gd : A.guards = some []) :
    FSs (cxOf CX0 P w K mg base N_law_sieve "_law_sieve" Hd.d__law_sieve.scope f cv A fr s H E).nox E Hd.d__law_sieve.body f_law_sieve := by
  have sc := sc_law_sieve
  have hr : Room 1 (cxOf CX0 P w K mg base N_law_sieve "_law_sieve" Hd.d__law_sieve.scope f cv A fr s H E).nox.A := hr0
  exact (fss_cons (fs_set (i := 0) sc.nd rfl (by first | exact .inl rfl | exact .inr rfl) (fe_op fop_mul (fe_lst (fa_cons fe_bl fa_nil)) fe_int)) (fss_cons (fs_for .never rfl (fi_range2 (by rfl) mf.m_range (fa_cons fe_int (fa_cons fe_int fa_nil))) (fg_name (i := 1) sc.nd rfl (by first | exact .inl rfl | exact .inr rfl)) (fss_one (fs_for .never rfl (fi_rangeUp (by rfl) mf.m_range (fa_cons (fe_op fop_mul (fe_var 1) (fe_var 1)) (fa_cons fe_int (fa_cons (fe_var 1) fa_nil)))) (fg_name (i := 2) sc.nd rfl (by first | exact .inl rfl | exact .inr rfl)) (fss_one (fs_asg fe_bl (fg_sub (fe_var 0) (fe_var 2))))))) (fss_one (fs_ret (fe_callTy (fcl_dictP rfl) (by rfl) mf.m_dict Bt.dict (fa_cons (fe_comp (own := [("_law_number", 1)]) rfl sc.nd (blkOk_by (by kernel_rfl)) (fi_range2 (by rfl) mf.m_range (fa_cons fe_int (fa_cons fe_int fa_nil))) (by decide) (fun _ => (fg_name (i := 1) sc.nd rfl (by first | exact .inl rfl | exact .inr rfl))) (fun _ => (fts_one (ft_tru (fe_ix (fe_var 0) (fe_var 1))))) (fun _ => (fe_tup (fa_cons (fe_var 1) (fa_cons fe_bl fa_nil))))) fa_nil))))))
theorem ok_law_sieve {P : Program} {w : World} {K : PySem.W.Frag} {mg : Str → Option Value} {base : Heap} (mf : Mf P w K mg base)  {f : Addr} {fd : FuncData} (hm : mg "_law_sieve" = some (.ref f)) (D : FunD K "_law_sieve" "_law_sieve" Hd.d__law_sieve.params Hd.d__law_sieve.body Hd.d__law_sieve.scope [] [] f fd) : Dok P w K mg base "_law_sieve" 2 [] [] g_law_sieve :=
  .of (fnG_of (N := N_law_sieve) (F := f_law_sieve) D sc_law_sieve fun cv A fr s H E hr gd => (b_law_sieve mf  hr gd).nox) hm D (fun _ _ _ _ _ _ us hl => match us, hl with | [], _ => rfl) (fun q hq => nomatch hq)
/-! _law_odd -/
def f_law_odd : FxS :=
  fSeq (fSet 1 (fBin gAdd (fBin gMul (fCall (kdG .urn 2 g_law_take) (fCons (fVar 0) (fCons (fBin gPow (fC (.int 10)) (fC (.int 40))) (fNil)))) (fBin gPow (fC (.int 10)) (fC (.int 40)))) (fC (.int 7)))) (fSeq (fSet 2 (fLst (fCons (fC .non) (fCons (fC (.bl true)) (fCons (fC (.bl false)) (fCons (fC (.str "")) (fCons (fC (.str "7")) (fCons (fTup (fNil)) (fCons (fTup (fCons (fC (.int 7)) (fNil))) (fCons (fLst (fCons (fC (.int 7)) (fNil))) (fCons (fDic0) (fCons (fDic1 "p" (fC (.int 7))) (fCons (fBin gAdd (fVar 1) (fC (.int 10008))) (fCons (fBin gSub (fC (.int 0)) (fVar 1)) (fCons (fC (.int 10009)) (fCons (fTup (fCons (fC (.str "7")) (fCons (fC (.int 7)) (fNil)))) (fNil))))))))))))))))) (fSeq (fSet 3 (fCall (kdG .len 2 g_law_of) (fCons (fVar 0) (fCons (fVar 2) (fNil))))) (fSeq (fFor (fRg gRg1 (fCons (fCall (kdG .len 2 g_law_of) (fCons (fVar 0) (fCons (fLst (fCons (fC (.int 0)) (fCons (fC (.int 0)) (fCons (fC (.int 1)) (fCons (fC (.int 2)) (fCons (fC (.int 18)) (fNil))))))) (fNil)))) (fNil))) (gNm 4) (fSet 3 (fBin gIx (fLst (fCons (fTup (fCons (fVar 3) (fNil))) (fCons (fLst (fCons (fVar 3) (fNil))) (fCons (fDic1 "a" (fVar 3)) (fCons (fTup (fCons (fVar 3) (fCons (fC (.int 5)) (fNil)))) (fNil)))))) (fCall (kdG .urn 2 g_law_take) (fCons (fVar 0) (fCons (fC (.int 4)) (fNil))))))) (fRet (fVar 3)))))
def g_law_odd : List U → M U := gDef 5 f_law_odd
abbrev N_law_odd : List Str := ["_law_urn_here", "_law_number", "_law_some", "_law_thing", "_law_turn"]
theorem sc_law_odd : FnScope N_law_odd ["_law_urn_here"] Hd.d__law_odd.scope := ⟨rfl, rfl, rfl, by decide +kernel, rfl, by decide +kernel, by decide +kernel⟩
theorem b_law_odd {P : Program} {w : World} {K : PySem.W.Frag} {mg : Str → Option Value} {base : Heap} (mf : Mf P w K mg base) (D_law_of : Dok P w K mg base "_law_of" 3 ["_law_urn_here", "_law_items"] [] g_law_of) (D_law_take : Dok P w K mg base "_law_take" 2 ["_law_urn_here", "_law_below"] [] g_law_take) {f : Addr} {cv : Value} {A : Around} {fr : List Env} {s : Shared} {H : Hp} {E : XK} (hr0 : Room 3 (A.deeper (PyProof.Rows.envOfC "_law_odd" Hd.d__law_odd.scope s.heap.objs.size f cv))) (gd : A.guards = some []) :
    FSs (cxOf CX0 P w K mg base N_law_odd "_law_odd" Hd.d__law_odd.scope f cv A fr s H E).nox E Hd.d__law_odd.body f_law_odd := by
  have sc := sc_law_odd
  have hr : Room 3 (cxOf CX0 P w K mg base N_law_odd "_law_odd" Hd.d__law_odd.scope f cv A fr s H E).nox.A := hr0
  exact (fss_cons (fs_set (i := 1) sc.nd rfl (by first | exact .inl rfl | exact .inr rfl) (fe_op fop_add (fe_op fop_mul (fe_def .urn D_law_take (by exact hr) (by rfl) (by exact gd) (by rfl) (fa_cons (fe_var 0) (fa_cons (fe_op fop_pow fe_int fe_int) fa_nil))) (fe_op fop_pow fe_int fe_int)) fe_int)) (fss_cons (fs_set (i := 2) sc.nd rfl (by first | exact .inl rfl | exact .inr rfl) (fe_lst (fa_cons fe_non (fa_cons fe_bl (fa_cons fe_bl (fa_cons fe_str (fa_cons fe_str (fa_cons (fe_tup fa_nil) (fa_cons (fe_tup (fa_cons fe_int fa_nil)) (fa_cons (fe_lst (fa_cons fe_int fa_nil)) (fa_cons fe_dic0 (fa_cons (fe_dic1 fe_int) (fa_cons (fe_op fop_add (fe_var 1) fe_int) (fa_cons (fe_op fop_sub fe_int (fe_var 1)) (fa_cons fe_int (fa_cons (fe_tup (fa_cons fe_str (fa_cons fe_int fa_nil))) fa_nil)))))))))))))))) (fss_cons (fs_set (i := 3) sc.nd rfl (by first | exact .inl rfl | exact .inr rfl) (fe_def .len D_law_of (by exact hr) (by rfl) (by exact gd) (by rfl) (fa_cons (fe_var 0) (fa_cons (fe_var 2) fa_nil)))) (fss_cons (fs_for .never rfl (fi_range1 (by rfl) mf.m_range (fa_cons (fe_def .len D_law_of (by exact hr) (by rfl) (by exact gd) (by rfl) (fa_cons (fe_var 0) (fa_cons (fe_lst (fa_cons fe_int (fa_cons fe_int (fa_cons fe_int (fa_cons fe_int (fa_cons fe_int fa_nil)))))) fa_nil))) fa_nil)) (fg_name (i := 4) sc.nd rfl (by first | exact .inl rfl | exact .inr rfl)) (fss_one (fs_set (i := 3) sc.nd rfl (by first | exact .inl rfl | exact .inr rfl) (fe_ix (fe_lst (fa_cons (fe_tup (fa_cons (fe_var 3) fa_nil)) (fa_cons (fe_lst (fa_cons (fe_var 3) fa_nil)) (fa_cons (fe_dic1 (fe_var 3)) (fa_cons (fe_tup (fa_cons (fe_var 3) (fa_cons fe_int fa_nil))) fa_nil))))) (fe_def .urn D_law_take (by exact hr) (by rfl) (by exact gd) (by rfl) (fa_cons (fe_var 0) (fa_cons fe_int fa_nil))))))) (fss_one (fs_ret (fe_var 3)))))))
theorem ok_law_odd {P : Program} {w : World} {K : PySem.W.Frag} {mg : Str → Option Value} {base : Heap} (mf : Mf P w K mg base) (D_law_of : Dok P w K mg base "_law_of" 3 ["_law_urn_here", "_law_items"] [] g_law_of) (D_law_take : Dok P w K mg base "_law_take" 2 ["_law_urn_here", "_law_below"] [] g_law_take) {f : Addr} {fd : FuncData} (hm : mg "_law_odd" = some (.ref f)) (D : FunD K "_law_odd" "_law_odd" Hd.d__law_odd.params Hd.d__law_odd.body Hd.d__law_odd.scope [] [] f fd) : Dok P w K mg base "_law_odd" 4 ["_law_urn_here"] [] g_law_odd :=
  .of (fnG_of (N := N_law_odd) (F := f_law_odd) D sc_law_odd fun cv A fr s H E hr gd => (b_law_odd mf D_law_of D_law_take hr gd).nox) hm D (fun _ _ _ _ _ _ us hl => match us, hl with | [_], _ => rfl) (fun q hq => nomatch hq)
/-! law -/
def f_law : FxS :=
  fSeq (fSet 1 (fCall (kdG .pur 0 g_law_sieve) fNil)) (fSeq (fIf (fNot (fTru (fCall gAll (fCons (fLc [2] (fRg gRg2 (fCons (fUn gNeg (fC (.int 5))) (fCons (fC (.int 10201)) (fNil)))) (gNm 2) (fYes) (fBin (gEq false) (fCall gReprD (fCons (fCall (kdG .len 1 g_is_prime) (fCons (fVar 2) (fNil))) (fNil))) (fCall gReprD (fCons (fBin gInDic (fVar 2) (fVar 1)) (fNil))))) (fNil))))) (fRet (fC (.bl false))) (fSkip)) (fSeq (fFor (fRg gRg1 (fCons (fCall gMax2 (fCons (fC (.int 1)) (fCons (fCall gMin2 (fCons (fC (.int 3)) (fCons (fCall gLen (fCons (fVar 0) (fNil))) (fNil)))) (fNil)))) (fNil))) (gNm 3) (fSeq (fSet 4 (fCall (kdG .pur 2 g_law_urn) (fCons (fVar 0) (fCons (fVar 3) (fNil))))) (fFor (fRg gRg1 (fCons (fC (.int 12)) (fNil))) (gNm 5) (fSeq (fSet 6 (fCall (kdG .len 1 g_law_odd) (fCons (fVar 4) (fNil)))) (fSeq (fSet 7 (fCall gReprD (fCons (fVar 6) (fNil)))) (fIf (fOr (fBl (fBin (gIs true) (fCall (kdG .len 1 g_is_prime) (fCons (fVar 6) (fNil))) (fC (.bl false)))) (fOr (fBl (fBin (gIs true) (fCall (kwG .len 1 1 [0] g_is_prime) (fCons (fVar 6) (fNil))) (fC (.bl false)))) (fBl (fBin (gEq true) (fCall gReprD (fCons (fVar 6) (fNil))) (fVar 7))))) (fRet (fC (.bl false))) (fSkip))))))) (fRet (fC (.bl true)))))
def g_law : List U → M U := gDef 8 f_law
abbrev N_law : List Str := ["_law_script", "_law_primes", "_law_number", "_law_k", "_law_urn_here", "_law_turn", "_law_thing", "_law_held"]
theorem sc_law : FnScope N_law ["_law_script"] Hd.d_law.scope := ⟨rfl, rfl, rfl, by decide +kernel, rfl, by decide +kernel, by decide +kernel⟩
theorem b_law {P : Program} {w : World} {K : PySem.W.Frag} {mg : Str → Option Value} {base : Heap} (mf : Mf P w K mg base) (D_law_sieve : Dok P w K mg base "_law_sieve" 2 [] [] g_law_sieve) (D_law_urn : Dok P w K mg base "_law_urn" 2 ["_law_script", "_law_k"] [] g_law_urn) (D_law_odd : Dok P w K mg base "_law_odd" 4 ["_law_urn_here"] [] g_law_odd) (D_is_prime : Dok P w K mg base "is_prime" 3 ["value"] [(["value"], [0])] g_is_prime) {f : Addr} {cv : Value} {A : Around} {fr : List Env} {s : Shared} {H : Hp} {E : XK} (hr0 : Room 4 (A.deeper (PyProof.Rows.envOfC "law" Hd.d_law.scope s.heap.objs.size f cv))) (gd : A.guards = some []) :
    FSs (cxOf CX0 P w K mg base N_law "law" Hd.d_law.scope f cv A fr s H E).nox E Hd.d_law.body f_law := by
  have sc := sc_law
  have hr : Room 4 (cxOf CX0 P w K mg base N_law "law" Hd.d_law.scope f cv A fr s H E).nox.A := hr0
  exact (fss_cons (fs_set (i := 1) sc.nd rfl (by first | exact .inl rfl | exact .inr rfl) (fe_def0 .pur D_law_sieve (by exact hr) (by rfl) (by exact gd) (by rfl) rfl)) (fss_cons (fs_if (ft_not (ft_tru (fe_callB (fcl_all rfl) (by rfl) mf.m_all Bt.all (fa_cons (fe_comp (own := [("_law_number", 2)]) rfl sc.nd (blkOk_by (by kernel_rfl)) (fi_range2 (by rfl) mf.m_range (fa_cons (fe_un fun_neg fe_int) (fa_cons fe_int fa_nil))) (by decide) (fun _ => (fg_name (i := 2) sc.nd rfl (by first | exact .inl rfl | exact .inr rfl))) (fun _ => fts_nil) (fun _ => (fe_cmp (fop_eq (by exact hr.units)) (fe_callB (fcl_reprD mf.sysm (by exact gd) (by exact u66 hr)) (by rfl) mf.m_repr Bt.repr (fa_cons (fe_def .len D_is_prime (by exact hr) (by rfl) (by exact gd) (by rfl) (fa_cons (fe_var 2) fa_nil)) fa_nil)) (fe_callB (fcl_reprD mf.sysm (by exact gd) (by exact u66 hr)) (by rfl) mf.m_repr Bt.repr (fa_cons (fe_cmp (fop_inDic (by exact hr.units)) (fe_var 2) (fe_var 1)) fa_nil))))) fa_nil)))) (fss_one (fs_ret fe_bl)) fss_nil) (fss_cons (fs_for .never rfl (fi_range1 (by rfl) mf.m_range (fa_cons (fe_callB (fcl_max2 rfl) (by rfl) mf.m_max Bt.max (fa_cons fe_int (fa_cons (fe_callB (fcl_min2 rfl) (by rfl) mf.m_min Bt.min (fa_cons fe_int (fa_cons (fe_callB fcl_len (by rfl) mf.m_len Bt.len (fa_cons (fe_var 0) fa_nil)) fa_nil))) fa_nil))) fa_nil)) (fg_name (i := 3) sc.nd rfl (by first | exact .inl rfl | exact .inr rfl)) (fss_cons (fs_set (i := 4) sc.nd rfl (by first | exact .inl rfl | exact .inr rfl) (fe_def .pur D_law_urn (by exact hr) (by rfl) (by exact gd) (by rfl) (fa_cons (fe_var 0) (fa_cons (fe_var 3) fa_nil)))) (fss_one (fs_for .never rfl (fi_range1 (by rfl) mf.m_range (fa_cons fe_int fa_nil)) (fg_name (i := 5) sc.nd rfl (by first | exact .inl rfl | exact .inr rfl)) (fss_cons (fs_set (i := 6) sc.nd rfl (by first | exact .inl rfl | exact .inr rfl) (fe_def .len D_law_odd (by exact hr) (by rfl) (by exact gd) (by rfl) (fa_cons (fe_var 4) fa_nil))) (fss_cons (fs_set (i := 7) sc.nd rfl (by first | exact .inl rfl | exact .inr rfl) (fe_callB (fcl_reprD mf.sysm (by exact gd) (by exact u66 hr)) (by rfl) mf.m_repr Bt.repr (fa_cons (fe_var 6) fa_nil))) (fss_one (fs_if (ft_w (fw_or (ft_cmp fop_isnot (fe_def .len D_is_prime (by exact hr) (by rfl) (by exact gd) (by rfl) (fa_cons (fe_var 6) fa_nil)) fe_bl) (fw_or (ft_cmp fop_isnot (fe_defK (ks := ["value"]) .len [0] D_is_prime (by simp) (by exact hr) (by rfl) (by exact gd) (by rfl) (fk_cons (fe_var 6) fk_nil)) fe_bl) (fw_or1 (ft_cmp (fop_ne (by exact hr.units)) (fe_callB (fcl_reprD mf.sysm (by exact gd) (by exact u66 hr)) (by rfl) mf.m_repr Bt.repr (fa_cons (fe_var 6) fa_nil)) (fe_var 7)))))) (fss_one (fs_ret fe_bl)) fss_nil)))))))) (fss_one (fs_ret fe_bl)))))
theorem ok_law {P : Program} {w : World} {K : PySem.W.Frag} {mg : Str → Option Value} {base : Heap} (mf : Mf P w K mg base) (D_law_sieve : Dok P w K mg base "_law_sieve" 2 [] [] g_law_sieve) (D_law_urn : Dok P w K mg base "_law_urn" 2 ["_law_script", "_law_k"] [] g_law_urn) (D_law_odd : Dok P w K mg base "_law_odd" 4 ["_law_urn_here"] [] g_law_odd) (D_is_prime : Dok P w K mg base "is_prime" 3 ["value"] [(["value"], [0])] g_is_prime) {f : Addr} {fd : FuncData} (hm : mg "law" = some (.ref f)) (D : FunD K "law" "law" Hd.d_law.params Hd.d_law.body Hd.d_law.scope [] [] f fd) : Dok P w K mg base "law" 5 ["_law_script"] [] g_law :=
  .of (fnG_of (N := N_law) (F := f_law) D sc_law fun cv A fr s H E hr gd => (b_law mf D_law_sieve D_law_urn D_law_odd D_is_prime hr gd).nox) hm D (fun _ _ _ _ _ _ us hl => match us, hl with | [_], _ => rfl) (fun q hq => nomatch hq)
theorem facts {P : Program} {w : World} {K : PySem.W.Frag} {h : Heap} {mg : Str → Option Value} {f : Addr} (X : K.In h) (G : h.Ns mainGlobals mg) (hfa : mg ("law" : Str) = some (.ref f)) (c0 : SaysF Hd.fa Hd.fn Hd.fx K) :
    ∃ fd : FuncData, (∀ (s : Shared) (v : Value), BindsTo s fd ⟨[v], []⟩ [("_law_script", v)]) ∧ ∀ base : Heap, K.In base → base.Ns mainGlobals mg → FnG P w K mg base CX0 5 f fd ["_law_script"] g_law := by
  have c := c0.d
  obtain ⟨fd_is_within, F_is_within⟩ := c.def_ 0 (d := Hd.d_is_within) rfl
  have m_is_within := He.glo_ok X G (c.fact 0 (f := .glo "is_within") rfl)
  obtain ⟨fd_is_prime, F_is_prime⟩ := c.def_ 1 (d := Hd.d_is_prime) rfl
  have m_is_prime := He.glo_ok X G (c.fact 1 (f := .glo "is_prime") rfl)
  obtain ⟨fd_law_urn, F_law_urn⟩ := c.def_ 2 (d := Hd.d__law_urn) rfl
  have m_law_urn := He.glo_ok X G (c.fact 2 (f := .glo "_law_urn") rfl)
  obtain ⟨fd_law_take, F_law_take⟩ := c.def_ 3 (d := Hd.d__law_take) rfl
  have m_law_take := He.glo_ok X G (c.fact 3 (f := .glo "_law_take") rfl)
  obtain ⟨fd_law_of, F_law_of⟩ := c.def_ 4 (d := Hd.d__law_of) rfl
  have m_law_of := He.glo_ok X G (c.fact 4 (f := .glo "_law_of") rfl)
  obtain ⟨fd_law_sieve, F_law_sieve⟩ := c.def_ 5 (d := Hd.d__law_sieve) rfl
  have m_law_sieve := He.glo_ok X G (c.fact 5 (f := .glo "_law_sieve") rfl)
  obtain ⟨fd_law_odd, F_law_odd⟩ := c.def_ 6 (d := Hd.d__law_odd) rfl
  have m_law_odd := He.glo_ok X G (c.fact 6 (f := .glo "_law_odd") rfl)
  obtain ⟨fd_law, F_law⟩ := c.def_ 7 (d := Hd.d_law) rfl
  have m_law := He.glo_ok X G (c.fact 7 (f := .glo "law") rfl)
  have e := hfa.symm.trans m_law
  cases e
  have b := FunD.bindsA (ps := ["_law_script"]) F_law fun _ _ _ _ _ _ us hl => match us, hl with | [_], _ => rfl
  refine ⟨fd_law, fun s v => b s [v] rfl, fun base _ _ => ?_⟩
  have hx := List.all_eq_true.mp (show (Hd.fxs.all fun f => f K) = true from c0.x)
  have sysm : sysB K = true := id (hx _ (List.mem_of_getElem? (i := 0) rfl))
  have mf : Mf P w K mg base := ⟨sysm, He.free_ok X G (c.fact 8 (f := .free "abs") rfl), He.free_ok X G (c.fact 9 (f := .free "all") rfl), He.free_ok X G (c.fact 10 (f := .free "bool") rfl), He.free_ok X G (c.fact 11 (f := .free "dict") rfl), He.free_ok X G (c.fact 12 (f := .free "int") rfl), He.free_ok X G (c.fact 13 (f := .free "isinstance") rfl), He.free_ok X G (c.fact 14 (f := .free "len") rfl), He.free_ok X G (c.fact 15 (f := .free "max") rfl), He.free_ok X G (c.fact 16 (f := .free "min") rfl), He.free_ok X G (c.fact 17 (f := .free "range") rfl), He.free_ok X G (c.fact 18 (f := .free "repr") rfl), He.int_ok X G (c.fact 19 rfl), He.int_ok X G (c.fact 20 rfl)⟩
  have D_is_within := ok_is_within (P := P) (w := w) (base := base) mf  m_is_within F_is_within
  have D_is_prime := ok_is_prime (P := P) (w := w) (base := base) mf D_is_within m_is_prime F_is_prime
  have D_law_urn := ok_law_urn (P := P) (w := w) (base := base) mf  m_law_urn F_law_urn
  have D_law_take := ok_law_take (P := P) (w := w) (base := base) mf  m_law_take F_law_take
  have D_law_of := ok_law_of (P := P) (w := w) (base := base) mf D_law_take m_law_of F_law_of
  have D_law_sieve := ok_law_sieve (P := P) (w := w) (base := base) mf  m_law_sieve F_law_sieve
  have D_law_odd := ok_law_odd (P := P) (w := w) (base := base) mf D_law_of D_law_take m_law_odd F_law_odd
  exact fnG_of (N := N_law) (F := f_law) F_law sc_law fun cv A fr s H E hr gd => (b_law mf D_law_sieve D_law_urn D_law_odd D_is_prime hr gd).nox
end Fn


set_option Elab.async false
set_option linter.all false
set_option maxRecDepth 100000
set_option maxHeartbeats 4000000
namespace Mx
open PySem PySem.Spec L2 Lf
/-! ## the primes -/
def prB (n m : Nat) : Bool := decide (∀ d, d < n → 2 ≤ d → d * d ≤ m → m % d ≠ 0)
theorem prB_iff {n m : Nat} : prB n m = true ↔ ∀ d, d < n → 2 ≤ d → d * d ≤ m → m % d ≠ 0 := by unfold prB; rw [decide_eq_true_eq]
def isP (i : Int) : Bool := decide (2 ≤ i ∧ i ≤ 10007) && prB 101 i.toNat
def ks (k : Nat) : List Nat := (List.range k).filter fun m => decide (2 ≤ m) && prB 101 m
def mks (n : Nat) : List U := (List.range 10008).map fun m => .bl (prB n m)
def mkj (n j : Nat) : List U := (List.range 10008).map fun m => .bl (prB n m && decide (∀ t, t < j → m ≠ n * n + t * n))
theorem flat_one (x : U) (n : Nat) : (List.replicate n [x]).flatten = List.replicate n x := by
  induction n with
  | zero => rfl
  | succ m ih => rw [List.replicate_succ, List.flatten_cons, ih, List.replicate_succ]; rfl
theorem mks_2 : List.replicate 10008 (U.bl true) = mks 2 := by
  unfold mks
  rw [← List.length_range (n := 10008), ← List.map_const', List.length_range]
  apply List.map_congr_left
  intro m _
  have : prB 2 m = true := prB_iff.mpr fun d h1 h2 => by omega
  rw [this]
theorem mkj_0 {n : Nat} : mks n = mkj n 0 := by
  unfold mks mkj
  apply List.map_congr_left
  intro m _
  simp
theorem mkj_end {n c : Nat} (hn : 2 ≤ n) (hn2 : n ≤ 100) (hc : c = upN ((n : Int) * n) 10008 n) : mkj n c = mks (n + 1) := by
  unfold mks mkj
  apply List.map_congr_left
  intro m hm
  rw [List.mem_range] at hm
  congr 1
  rw [Bool.eq_iff_iff, Bool.and_eq_true, prB_iff, prB_iff, decide_eq_true_eq]
  have hnn : n * n ≤ 10000 := Nat.mul_le_mul hn2 hn2
  have hb : n * n < 10008 := by omega
  have hcn : c = (10008 - n * n - 1) / n + 1 := by
    rw [hc]
    unfold upN
    have e1 : ((n : Int) * n) = ((n * n : Nat) : Int) := by rw [Int.natCast_mul]
    rw [e1, if_pos (by omega)]
    have e2 : (10008 - ((n * n : Nat) : Int) - 1) = ((10008 - n * n - 1 : Nat) : Int) := by omega
    rw [e2, ← Int.natCast_ediv]
    generalize (10008 - n * n - 1) / n = w
    omega
  constructor
  · rintro ⟨h1, h2⟩ d hd hd2 hdm
    by_cases e : d = n
    · subst e
      intro hz
      have hq : d ∣ m - d * d := (Nat.dvd_sub_iff_left hdm (Nat.dvd_mul_left d d)).mpr (Nat.dvd_of_mod_eq_zero hz)
      obtain ⟨t, ht⟩ := hq
      refine h2 t ?_ (by rw [Nat.mul_comm t d, ← ht]; omega)
      rw [hcn]
      have : t ≤ (10008 - d * d - 1) / d := (Nat.le_div_iff_mul_le (by omega)).mpr (by rw [Nat.mul_comm, ← ht]; omega)
      omega
    · exact h1 d (by omega) hd2 hdm
  · intro h
    refine ⟨fun d hd => h d (by omega), fun t _ e => ?_⟩
    refine h n (by omega) hn (by rw [e]; exact Nat.le_add_right _ _) ?_
    rw [e, Nat.mul_comm t n, ← Nat.mul_add]
    exact Nat.mul_mod_right _ _
theorem mkj_step {n j : Nat} : (mkj n j).set (n * n + j * n) (.bl false) = mkj n (j + 1) := by
  unfold mkj
  rw [set_range]
  apply List.map_congr_left
  intro m _
  split
  · rename_i e
    congr 1
    symm
    rw [Bool.and_eq_false_iff]
    right
    rw [decide_eq_false_iff_not]
    intro h
    exact h j (by omega) e
  · rename_i e
    congr 2
    rw [decide_eq_decide]
    constructor
    · intro h t ht
      by_cases z : t = j
      · subst z; exact e
      · exact h t (by omega)
    · intro h t ht
      exact h t (by omega)
theorem mkj_len {n j : Nat} : (mkj n j).length = 10008 := by unfold mkj; rw [List.length_map, List.length_range]
theorem ks_succ {k : Nat} : ks (k + 1) = ks k ++ if decide (2 ≤ k) && prB 101 k then [k] else [] := by
  unfold ks
  rw [List.range_succ, List.filter_append]
  congr 1
  rw [List.filter_cons, List.filter_nil]
theorem ks_mem {k m : Nat} : m ∈ ks k ↔ m < k ∧ 2 ≤ m ∧ prB 101 m = true := by
  unfold ks
  rw [List.mem_filter, List.mem_range, Bool.and_eq_true, decide_eq_true_eq]
theorem ks_nodup {k : Nat} : (ks k).Nodup := List.Pairwise.filter _ List.nodup_range
def prD : List (U × U) := (ks 10008).map fun m => (.int (m : Nat), .bl true)
theorem prD_has (i : Int) : hasI prD i = isP i := by
  unfold hasI prD isP
  rw [List.any_map, Bool.eq_iff_iff, List.any_eq_true, Bool.and_eq_true, decide_eq_true_eq]
  constructor
  · rintro ⟨m, hm, h⟩
    have h : ((m : Nat) : Int) = i := of_decide_eq_true h
    subst h
    obtain ⟨h1, h2, h3⟩ := ks_mem.mp hm
    exact ⟨by omega, by simpa using h3⟩
  · rintro ⟨⟨h1, h2⟩, h3⟩
    exact ⟨i.toNat, ks_mem.mpr ⟨by omega, by omega, h3⟩, decide_eq_true (by omega)⟩
theorem prD_cons : ∃ j v r, prD = (.int j, v) :: r := by
  have h2 : 2 ∈ ks 10008 := ks_mem.mpr ⟨by omega, by omega, prB_iff.mpr fun d _ h1 h2 => by
    have : 2 * 2 ≤ d * d := Nat.mul_le_mul h1 h1
    omega⟩
  unfold prD
  cases e : ks 10008 with
  | nil => rw [e] at h2; cases h2
  | cons m r => exact ⟨_, _, _, rfl⟩
theorem nrO_prD : nrO (.dic prD) = true := by
  have h : ∀ l : List Nat, nrs ((l.map fun m => ((.int (m : Nat) : U), U.bl true)).map (·.2)) = true := by
    intro l
    induction l with
    | nil => rfl
    | cons m l ih => rw [List.map_cons, List.map_cons]; show (true && nrs _) = true; rw [ih]; rfl
  exact h _
end Mx


set_option Elab.async false
set_option linter.all false
set_option maxRecDepth 100000
set_option maxHeartbeats 4000000
namespace Mx
open PySem PySem.Spec L2 Lf
/-! ## the sieve -/
theorem ks_2 : ks 2 = [] := by
  cases e : ks 2 with
  | nil => rfl
  | cons m r =>
    have : m ∈ ks 2 := by rw [e]; exact List.mem_cons_self ..
    have := ks_mem.mp this
    omega
set_option maxHeartbeats 400000 in
local macro_rules | `(tactic| bv_omega) => `(tactic| repeat (first | with_reducible refine Lf.kS_nx ?_ | with_reducible refine Lf.kS_rt ?_ | with_reducible refine Lf.kS_bk ?_ | with_reducible refine Lf.kS_ct ?_ | with_reducible refine Lf.kD_rt ?_ | with_reducible refine Lf.kD_nx ?_ | with_reducible refine Lf.kF_nx ?_ | with_reducible refine Lf.kF_ct ?_ | with_reducible refine Lf.kF_bk ?_ | with_reducible refine Lf.kF_rt ?_ | with_reducible refine Lf.v_ifT ?_ | with_reducible refine Lf.v_ifF ?_ | with_reducible refine Lf.v_ifNT ?_ | with_reducible refine Lf.v_ifNF ?_ | with_reducible refine Lf.kP_int ?_ | with_reducible refine Lf.kP_bl ?_ | with_reducible refine Lf.kP_str ?_ | with_reducible refine Lf.kP_non ?_ | with_reducible refine Lf.v_iadd ?_ | with_reducible refine Lf.Wp.ok ?_ | with_reducible refine Lf.seq_wp ?_ | with_reducible refine Lf.v_bin ?_ | with_reducible refine Lf.v_cons ?_ | with_reducible refine Lf.v_call ?_ | with_reducible refine Lf.v_ret ?_ | with_reducible refine Lf.v_set ?_ | with_reducible refine Lf.v_asg ?_ | with_reducible refine Lf.v_if ?_ | with_reducible refine Lf.v_ifE ?_ | with_reducible refine Lf.v_bl ?_ | with_reducible refine Lf.v_tru ?_ | with_reducible refine Lf.v_and ?_ | with_reducible refine Lf.v_or ?_ | with_reducible refine Lf.v_not ?_ | with_reducible refine Lf.v_andV ?_ | with_reducible refine Lf.v_orV ?_ | with_reducible refine Lf.v_notV ?_ | with_reducible refine Lf.v_c ?_ | with_reducible refine Lf.v_nil ?_ | with_reducible refine Lf.v_skip ?_ | with_reducible refine Lf.v_drop ?_ | with_reducible refine Lf.v_retN ?_ | with_reducible refine Lf.v_brk ?_ | with_reducible refine Lf.v_cnt ?_ | with_reducible refine Lf.v_nm ?_ | with_reducible refine Lf.v_gnil ?_ | with_reducible refine Lf.v_gcons ?_ | with_reducible refine Lf.v_yes ?_ | with_reducible refine Lf.v_for ?_ | with_reducible refine Lf.v_lc ?_ | with_reducible refine Lf.v_rg ?_ | with_reducible refine Lf.v_iter ?_ | with_reducible refine Lf.v_iterT ?_ | with_reducible refine Lf.v_add ?_ | with_reducible refine Lf.v_sub ?_ | with_reducible refine Lf.v_neg ?_ | with_reducible refine Lf.v_lt ?_ | with_reducible refine Lf.v_le ?_ | with_reducible refine Lf.v_gt ?_ | with_reducible refine Lf.v_ge ?_ | with_reducible refine Lf.v_eqI ?_ | with_reducible refine Lf.v_neI ?_ | with_reducible refine Lf.v_abs ?_ | with_reducible refine Lf.v_intI ?_ | with_reducible refine Lf.v_intB ?_ | with_reducible refine Lf.v_max2 ?_ | with_reducible refine Lf.v_min2 ?_ | with_reducible refine Lf.v_lenT ?_ | with_reducible refine Lf.v_lenN ?_ | with_reducible refine Lf.v_nw ?_ | with_reducible refine Lf.v_un ?_ | with_reducible refine Lf.v_tup ?_ | with_reducible refine Lf.v_lst ?_ | with_reducible refine Lf.v_par2 ?_ | with_reducible refine Lf.v_par3 ?_ | with_reducible refine Lf.v_chain ?_ | with_reducible refine Lf.v_meth ?_ | with_reducible refine Lf.v_subT ?_ | with_reducible refine Lf.v_isiIB ?_ | with_reducible refine Lf.v_isiII ?_ | with_reducible refine Lf.v_sl ?_ | with_reducible refine Lf.v_noP ?_ | with_reducible refine Lf.v_pt ?_ | with_reducible refine Lf.v_cutT ?_ | ((with_reducible apply Lf.v_var); exact rfl) | ((with_reducible refine Lf.v_kw ?_ ?_); exact rfl) | ((with_reducible apply Lf.v_iterO); first | exact rfl | assumption) | ((with_reducible apply Lf.v_lenL); first | exact rfl | assumption) | ((with_reducible refine Lf.v_unp ?_ ?_); exact rfl) | ((with_reducible apply Lf.v_aug); exact rfl) | ((with_reducible refine Lf.v_mod ?_ ?_); first | decide | omega | assumption | fail) | ((with_reducible refine Lf.v_div ?_ ?_); first | exact ⟨by decide, by decide +kernel⟩ | assumption | exact Lf.log2d (by omega) ⟨by omega, by omega⟩ | fail) | ((with_reducible refine Lf.v_mul ?_ ?_); first | exact Lf.log2m ⟨by omega, by omega⟩ ⟨by omega, by omega⟩ | exact Lf.log2m (by assumption) ⟨by omega, by omega⟩ | exact Lf.log2m ⟨by omega, by omega⟩ (by assumption) | fail) | ((with_reducible refine Lf.v_pow ?_ ?_); exact ⟨by decide, by decide, by decide⟩) | ((with_reducible refine Lf.v_rg1 ?_ ?_); first | decide | fail) | ((with_reducible apply Lf.v_ixL); (first | exact rfl | assumption | fail); (first | exact rfl | assumption | fail)) | ((with_reducible apply Lf.v_ixT); (first | exact rfl | assumption | fail)) | ((with_reducible apply Lf.v_ixN); (first | exact rfl | assumption | fail)) | with_reducible refine ⟨_, rfl, ?_⟩ | (refine ⟨_, (rfl : Lf.tru _ (Lf.U.bl _) = some _), ?_⟩) | with_reducible refine ⟨_, _, rfl, ?_⟩ | with_reducible refine ⟨_, _, _, rfl, ?_⟩ | (refine ⟨(Nat.le_of_ble_eq_true rfl : List.length _ ≤ 16777216), ?_⟩) | with_reducible refine Lf.v_enum ?_ | with_reducible refine Lf.v_eqS0 ?_ | with_reducible refine Lf.v_neT ?_ | with_reducible refine Lf.v_ix0 ?_ | with_reducible refine Lf.v_tupleT ?_ | with_reducible refine Lf.v_listT ?_ | with_reducible refine Lf.v_revT ?_ | with_reducible refine Lf.v_dic0 ?_ | with_reducible refine Lf.v_dic1 ?_ | ((with_reducible apply Lf.isl_and); (first | exact rfl | assumption | fail)) | ((with_reducible apply Lf.v_appZ); (first | exact rfl | assumption | fail); (first | omega | (simp only [List.length_append, List.length_map, List.length_cons, List.length_nil]; omega) | (simp; omega) | fail)) | ((with_reducible apply Lf.v_tupleL); (first | exact rfl | assumption | fail)) | ((with_reducible apply Lf.v_listL); (first | exact rfl | assumption | fail)) | ((with_reducible refine Lf.v_yesd ?_ ?_); (first | (with_reducible rfl) | assumption | (exact fun z => z rfl) | decide +kernel | omega | fail)) | ((with_reducible refine Lf.v_nod ?_ ?_); (first | (with_reducible rfl) | assumption | (exact fun z => z rfl) | decide +kernel | omega | fail)) | ((with_reducible refine Lf.v_yesn ?_ ?_); (first | (with_reducible rfl) | assumption | (exact fun z => z rfl) | decide +kernel | omega | fail)) | ((with_reducible refine Lf.v_non ?_ ?_); (first | (with_reducible rfl) | assumption | (exact fun z => z rfl) | decide +kernel | omega | fail)) | ((with_reducible refine Lf.kP_tup ?_ ?_); first | exact rfl | exact Lf.nrs_ints _ | assumption | fail) | ((with_reducible refine Lf.v_rg1 ?_ ?_); exact Lf.small62_of (by omega) (by omega)) | fail))
theorem sieve_gen {T : Sto} {Q : U → Sto → Prop} (G : Nat → List U) (F : Nat → Nat → List U) (D : List (U × U)) (K : Nat → List Nat) (g2 : (List.replicate (10008 : Int).toNat [U.bl true]).flatten = G 2) (gF : ∀ n, G n = F n 0) (fl : ∀ n j, (F n j).length = 10008) (fs : ∀ n j, (F n j).set (n * n + j * n) (.bl false) = F n (j + 1))
    (fe : ∀ n, 2 ≤ n → n ≤ 100 → F n (upN ((n : Int) * n) 10008 n) = G (n + 1)) (pB : Nat → Bool) (gx : ∀ k : Nat, k < 10008 → atI (G 101) (k : Int) = some (.bl (pB k))) (k2 : K 2 = []) (ks : ∀ k, 2 ≤ k → K (k + 1) = K k ++ if pB k then [k] else []) (kn : ((K 10008).map fun m : Nat => (m : Int)).Nodup)
    (hD : D = (K 10008).map fun m => (.int (m : Nat), .bl true)) (nD : nrO (.dic D) = true) (q : Q (.ob T.length) (T ++ [.dic D])) : Wp (kdG .pur 0 Fn.g_law_sieve [] T) Q := by
  show Wp (pureG 0 (gDef 3 Fn.f_law_sieve) [] T) Q
  refine purK (n := 0) (us := []) rfl rfl ?_
  refine gDef_wp ?_
  unfold Fn.f_law_sieve
  bv_omega
  refine v_mulL rfl ⟨by decide, by decide, by decide⟩ ?_
  bv_omega
  rw [g2]
  refine v_rg2 (by decide) ?_
  bv_omega
  refine wp_forC (fun r η T => ∃ n : Nat, 2 ≤ n ∧ n + r.length = 101 ∧ r = rgU n (101 - n) ∧ T = [.lst [.bl true], .lst (G n)] ∧ ∃ o1 o2, η = [some (.ob 1), o1, o2]) ⟨2, Nat.le_refl _, by rw [rgU_len]; rfl, rfl, rfl, _, _, rfl⟩ (fun x r η T ⟨n, h1, h2, hr, eT, o1, o2, e⟩ => ?_) (fun η T ⟨n, h1, h2, hr, eT, o1, o2, e⟩ => ?_)
  · subst eT e
    rw [List.length_cons] at h2
    obtain ⟨m, hm⟩ : ∃ m, 101 - n = m + 1 := ⟨100 - n, by omega⟩
    rw [hm, rgU_cons] at hr
    obtain ⟨rfl, rfl⟩ := List.cons.inj hr
    have hnn : n * n ≤ 100 * 100 := Nat.mul_le_mul (by omega) (by omega)
    have hnn4 : 2 * 2 ≤ n * n := Nat.mul_le_mul h1 h1
    have enn : (n : Int) * n = ((n * n : Nat) : Int) := by rw [Int.natCast_mul]
    bv_omega
    refine v_rgUp (by omega) (by omega) ?_ ?_
    · rw [enn]
      have hs : Builtin.Range.rangeSize ((n * n : Nat) : Int) 10008 n = upN ((n * n : Nat) : Int) 10008 n := by
        unfold Builtin.Range.rangeSize upN
        rw [if_pos (by omega), if_pos (by omega), if_pos (by omega)]
        have := Int.ediv_nonneg (a := 10008 - ((n * n : Nat) : Int) - 1) (b := n) (by omega) (by omega)
        omega
      have hu : (upN ((n * n : Nat) : Int) 10008 n : Int) ≤ 10008 := by
        unfold upN
        rw [if_pos (by omega)]
        have e2 : (10008 - ((n * n : Nat) : Int) - 1) = ((10008 - n * n - 1 : Nat) : Int) := by omega
        rw [e2, ← Int.natCast_ediv]
        have := Nat.div_le_self (10008 - n * n - 1) n
        omega
      unfold Builtin.Range.small
      rw [hs]
      simp only [Builtin.Range.rangeFitsLong, Bool.and_eq_true, Bool.or_eq_true, decide_eq_true_eq]
      rw [if_pos (by omega)]
      simp only [decide_eq_true_eq, Bool.and_eq_true]
      exact ⟨⟨⟨⟨by omega, by omega⟩, by omega⟩, by omega⟩, .inr (by omega)⟩
    bv_omega
    refine wp_forC (fun r η T => ∃ j : Nat, j + r.length = upN ((n : Int) * n) 10008 n ∧ r = (upU ((n : Int) * n) n (upN ((n : Int) * n) 10008 n)).drop j ∧ T = [.lst [.bl true], .lst (F n j)] ∧ ∃ o2, η = [some (.ob 1), some (.int n), o2]) ⟨0, by simp [upU], rfl, by rw [gF], _, rfl⟩ (fun x r η T ⟨j, h3, hr, eT, o2, e⟩ => ?_) (fun η T ⟨j, h3, hr, eT, o2, e⟩ => ?_)
    · subst eT e
      rw [List.length_cons] at h3
      have hl : (upU ((n : Int) * n) n (upN ((n : Int) * n) 10008 n)).length = upN ((n : Int) * n) 10008 n := by simp [upU]
      rw [List.drop_eq_getElem_cons (by omega)] at hr
      obtain ⟨hx, hr2⟩ := List.cons.inj hr
      have ex : (upU ((n : Int) * n) n (upN ((n : Int) * n) 10008 n))[j]'(by omega) = .int ((n * n + j * n : Nat) : Int) := by
        simp [upU]
      rw [ex] at hx
      subst hx hr2
      have hlt : n * n + j * n < 10008 := by
        have hj : j < upN ((n : Int) * n) 10008 n := by omega
        unfold upN at hj
        rw [enn, if_pos (by omega)] at hj
        have e2 : (10008 - ((n * n : Nat) : Int) - 1) = ((10008 - n * n - 1 : Nat) : Int) := by omega
        rw [e2, ← Int.natCast_ediv] at hj
        have hj2 : j ≤ (10008 - n * n - 1) / n := by omega
        have := (Nat.le_div_iff_mul_le (by omega)).mp hj2
        omega
      bv_omega
      refine ⟨[.lst [.bl true], .lst (F n (j + 1))], ?_, ?_⟩
      · rw [setIt_at (xs := F n j) rfl (by omega) (by rw [fl]; omega), show ((n * n + j * n : Nat) : Int).toNat = n * n + j * n by omega, fs]
        rfl
      refine kF_nx ?_
      exact ⟨j + 1, by omega, rfl, rfl, _, rfl⟩
    · subst eT e
      rw [List.length_nil] at h3
      bv_omega
      refine ⟨n + 1, by omega, by omega, ?_, ?_, _, _, rfl⟩
      · rw [show 101 - (n + 1) = m by omega]; rfl
      · rw [show j = upN ((n : Int) * n) 10008 n by omega, fe n h1 (by omega)]
  · subst eT e
    rw [List.length_nil] at h2
    obtain rfl : n = 101 := by omega
    bv_omega
    refine v_rg2 (by decide) ?_
    bv_omega
    refine wp_lcC (fun r acc T => ∃ k : Nat, 2 ≤ k ∧ k + r.length = 10008 ∧ r = rgU k (10008 - k) ∧ acc = (K k).map (fun m => .tup [.int (m : Nat), .bl true]) ∧ (K k).length ≤ k ∧ T = [.lst [.bl true], .lst (G 101)]) ⟨2, by omega, by rw [rgU_len]; rfl, rfl, by rw [k2]; rfl, by rw [k2]; decide, rfl⟩ (fun x r acc T ⟨k, h1, h2, hr, ea, hl, eT⟩ => ?_) (fun acc T ⟨k, h1, h2, hr, ea, hl, eT⟩ => ?_)
    · subst eT ea
      rw [List.length_cons] at h2
      obtain ⟨m, hm⟩ : ∃ m, 10008 - k = m + 1 := ⟨10007 - k, by omega⟩
      rw [hm, rgU_cons] at hr
      obtain ⟨rfl, rfl⟩ := List.cons.inj hr
      have ix := gx k (by omega)
      bv_omega
      refine ⟨fun hb => ?_, fun hb => ?_⟩
      · bv_omega
        refine ⟨by rw [List.length_map]; omega, k + 1, by omega, by omega, ?_, ?_, ?_, rfl⟩
        · rw [show 10008 - (k + 1) = m by omega]; rfl
        · rw [ks k h1, hb]
          simp
        · rw [ks k h1, List.length_append]
          split <;> simp <;> omega
      · refine ⟨k + 1, by omega, by omega, ?_, ?_, ?_, rfl⟩
        · rw [show 10008 - (k + 1) = m by omega]; rfl
        · rw [ks k h1, hb]
          simp
        · rw [ks k h1, List.length_append]
          split <;> simp <;> omega
    · subst eT ea
      rw [List.length_nil] at h2
      obtain rfl : k = 10008 := by omega
      bv_omega
      refine v_dictP (ps := (K 10008).map fun m => ((m : Nat) , .bl true)) rfl (prI_map _ _ _) ?_ ?_
      · rw [List.map_map]
        exact kn
      bv_omega
      rw [List.map_map]
      refine kP_ob (o := .dic D) ?_ nD q
      rw [hD]
      rfl
theorem sieve_ok {T : Sto} {Q : U → Sto → Prop} (q : Q (.ob T.length) (T ++ [.dic prD])) : Wp (kdG .pur 0 Fn.g_law_sieve [] T) Q := by
  refine sieve_gen mks mkj prD ks ?_ (fun n => mkj_0) (fun n j => mkj_len) (fun n j => mkj_step) (fun n h1 h2 => mkj_end h1 h2 rfl) (prB 101) (fun k hk => ?_) ks_2 (fun k hk => ?_) ?_ rfl nrO_prD q
  · rw [← mks_2]; exact flat_one _ _
  · unfold atI ixN mks
    rw [if_pos (by omega), List.length_map, List.length_range, if_pos (by omega)]
    simp [hk]
  · rw [ks_succ, show decide (2 ≤ k) = true from decide_eq_true hk, Bool.true_and]
  · exact List.Pairwise.map _ (fun a b hab e => hab (Int.ofNat.inj e)) ks_nodup
end Mx


set_option Elab.async false
set_option linter.all false
set_option maxRecDepth 100000
set_option maxHeartbeats 4000000
namespace Mx
open PySem PySem.Spec L2 Lf
/-! ## is_prime -/
section
variable {T : Sto} {Q : U → Sto → Prop}
local macro_rules | `(tactic| rfl') => `(tactic| repeat (first | with_reducible refine Lf.kS_nx ?_ | with_reducible refine Lf.kS_rt ?_ | with_reducible refine Lf.kS_bk ?_ | with_reducible refine Lf.kS_ct ?_ | with_reducible refine Lf.kD_rt ?_ | with_reducible refine Lf.kD_nx ?_ | with_reducible refine Lf.kF_nx ?_ | with_reducible refine Lf.kF_ct ?_ | with_reducible refine Lf.kF_bk ?_ | with_reducible refine Lf.kF_rt ?_ | with_reducible refine Lf.v_ifT ?_ | with_reducible refine Lf.v_ifF ?_ | with_reducible refine Lf.v_ifNT ?_ | with_reducible refine Lf.v_ifNF ?_ | with_reducible refine Lf.kP_int ?_ | with_reducible refine Lf.kP_bl ?_ | with_reducible refine Lf.kP_str ?_ | with_reducible refine Lf.kP_non ?_ | with_reducible refine Lf.v_iadd ?_ | with_reducible refine Lf.Wp.ok ?_ | with_reducible refine Lf.seq_wp ?_ | with_reducible refine Lf.v_bin ?_ | with_reducible refine Lf.v_cons ?_ | with_reducible refine Lf.v_call ?_ | with_reducible refine Lf.v_ret ?_ | with_reducible refine Lf.v_set ?_ | with_reducible refine Lf.v_asg ?_ | with_reducible refine Lf.v_if ?_ | with_reducible refine Lf.v_ifE ?_ | with_reducible refine Lf.v_bl ?_ | with_reducible refine Lf.v_tru ?_ | with_reducible refine Lf.v_and ?_ | with_reducible refine Lf.v_or ?_ | with_reducible refine Lf.v_not ?_ | with_reducible refine Lf.v_andV ?_ | with_reducible refine Lf.v_orV ?_ | with_reducible refine Lf.v_notV ?_ | with_reducible refine Lf.v_c ?_ | with_reducible refine Lf.v_nil ?_ | with_reducible refine Lf.v_skip ?_ | with_reducible refine Lf.v_drop ?_ | with_reducible refine Lf.v_retN ?_ | with_reducible refine Lf.v_brk ?_ | with_reducible refine Lf.v_cnt ?_ | with_reducible refine Lf.v_nm ?_ | with_reducible refine Lf.v_gnil ?_ | with_reducible refine Lf.v_gcons ?_ | with_reducible refine Lf.v_yes ?_ | with_reducible refine Lf.v_for ?_ | with_reducible refine Lf.v_lc ?_ | with_reducible refine Lf.v_rg ?_ | with_reducible refine Lf.v_iter ?_ | with_reducible refine Lf.v_iterT ?_ | with_reducible refine Lf.v_add ?_ | with_reducible refine Lf.v_sub ?_ | with_reducible refine Lf.v_neg ?_ | with_reducible refine Lf.v_lt ?_ | with_reducible refine Lf.v_le ?_ | with_reducible refine Lf.v_gt ?_ | with_reducible refine Lf.v_ge ?_ | with_reducible refine Lf.v_eqI ?_ | with_reducible refine Lf.v_neI ?_ | with_reducible refine Lf.v_abs ?_ | with_reducible refine Lf.v_intI ?_ | with_reducible refine Lf.v_intB ?_ | with_reducible refine Lf.v_max2 ?_ | with_reducible refine Lf.v_min2 ?_ | with_reducible refine Lf.v_lenT ?_ | with_reducible refine Lf.v_lenN ?_ | with_reducible refine Lf.v_nw ?_ | with_reducible refine Lf.v_un ?_ | with_reducible refine Lf.v_tup ?_ | with_reducible refine Lf.v_lst ?_ | with_reducible refine Lf.v_par2 ?_ | with_reducible refine Lf.v_par3 ?_ | with_reducible refine Lf.v_chain ?_ | with_reducible refine Lf.v_meth ?_ | with_reducible refine Lf.v_subT ?_ | with_reducible refine Lf.v_isiIB ?_ | with_reducible refine Lf.v_isiII ?_ | with_reducible refine Lf.v_sl ?_ | with_reducible refine Lf.v_noP ?_ | with_reducible refine Lf.v_pt ?_ | with_reducible refine Lf.v_cutT ?_ | ((with_reducible apply Lf.v_var); exact rfl) | ((with_reducible refine Lf.v_kw ?_ ?_); exact rfl) | ((with_reducible apply Lf.v_iterO); first | exact rfl | assumption) | ((with_reducible apply Lf.v_lenL); first | exact rfl | assumption) | ((with_reducible refine Lf.v_unp ?_ ?_); exact rfl) | ((with_reducible apply Lf.v_aug); exact rfl) | ((with_reducible refine Lf.v_mod ?_ ?_); first | decide | omega | assumption | fail) | ((with_reducible refine Lf.v_div ?_ ?_); first | exact ⟨by decide, by decide +kernel⟩ | assumption | exact Lf.log2d (by omega) ⟨by omega, by omega⟩ | fail) | ((with_reducible refine Lf.v_mul ?_ ?_); first | exact Lf.log2m ⟨by omega, by omega⟩ ⟨by omega, by omega⟩ | exact Lf.log2m (by assumption) ⟨by omega, by omega⟩ | exact Lf.log2m ⟨by omega, by omega⟩ (by assumption) | fail) | ((with_reducible refine Lf.v_pow ?_ ?_); exact ⟨by decide, by decide, by decide⟩) | ((with_reducible refine Lf.v_rg1 ?_ ?_); first | decide | fail) | ((with_reducible apply Lf.v_ixL); (first | exact rfl | assumption | fail); (first | exact rfl | assumption | fail)) | ((with_reducible apply Lf.v_ixT); (first | exact rfl | assumption | fail)) | ((with_reducible apply Lf.v_ixN); (first | exact rfl | assumption | fail)) | with_reducible refine ⟨_, rfl, ?_⟩ | (refine ⟨_, (rfl : Lf.tru _ (Lf.U.bl _) = some _), ?_⟩) | with_reducible refine ⟨_, _, rfl, ?_⟩ | with_reducible refine ⟨_, _, _, rfl, ?_⟩ | (refine ⟨(Nat.le_of_ble_eq_true rfl : List.length _ ≤ 16777216), ?_⟩) | with_reducible refine Lf.v_enum ?_ | fail))
theorem ip_int {i : Int} (q : Q (.bl (isP i)) T) : Wp (kdG .len 1 Fn.g_is_prime [.int i] T) Q := by
  refine len_wp rfl ?_
  show Wp (gDef 2 Fn.f_is_prime _ _) _
  refine gDef_wp ?_
  unfold Fn.f_is_prime
  by_cases hi : 2 ≤ i ∧ i ≤ 10007
  · rfl'
    refine iwL_ok (g := Fn.g_is_within) rfl hi.1 hi.2 ?_
    rfl'
    obtain ⟨v, rfl⟩ : ∃ v : Nat, i = v := ⟨i.toNat, by omega⟩
    refine v_while (fun m η T1 => T1 = T ∧ ∃ d : Nat, 2 ≤ d ∧ d + m = 101 ∧ (∀ e, 2 ≤ e → e < d → v % e ≠ 0) ∧ η = [some (.int v), some (.int d)]) (fun m η T1 ⟨eT, d, h1, h2, h3, e⟩ => ?_) 99 1000000 _ _ (by omega) ⟨rfl, 2, Nat.le_refl _, rfl, fun e h1 h2 => by omega, rfl⟩
    subst eT e
    have edd : (d : Int) * d = ((d * d : Nat) : Int) := by rw [Int.natCast_mul]
    rfl'
    rw [edd]
    refine v_ifd (fun hc => ?_) (fun hc => ?_)
    · have hd : d ≤ 100 := by
        apply Decidable.byContradiction
        intro z
        have : 101 * 101 ≤ d * d := Nat.mul_le_mul (by omega) (by omega)
        omega
      refine ⟨by omega, ?_⟩
      rfl'
      refine v_ifd (fun hz => ?_) (fun hz => ?_)
      · rfl'
        have hz2 : v % d = 0 := by omega
        have : isP v = false := by
          unfold isP
          rw [Bool.and_eq_false_iff]
          right
          rw [Bool.eq_false_iff]
          intro h
          exact prB_iff.mp h d (by omega) h1 (by omega) (by simpa using hz2)
        rw [this] at q
        exact q
      · rfl'
        refine ⟨rfl, d + 1, by omega, by omega, fun e h4 h5 => ?_, rfl⟩
        by_cases z : e = d
        · subst z; omega
        · exact h3 e h4 (by omega)
    · rfl'
      have : isP v = true := by
        unfold isP
        rw [Bool.and_eq_true, decide_eq_true_eq]
        refine ⟨hi, prB_iff.mpr fun e _ h4 h5 => ?_⟩
        have h5 : e * e ≤ v := h5
        refine h3 e h4 ?_
        apply Decidable.byContradiction
        intro z
        have : d * d ≤ e * e := Nat.mul_le_mul (by omega) (by omega)
        omega
      rw [this] at q
      exact q
  · have e : isP i = false := by unfold isP; rw [decide_eq_false hi]; rfl
    rw [e] at q
    rfl'
    refine iwL_out (g := Fn.g_is_within) rfl (by omega) ?_
    rfl'
    exact q
/-- no number from 2 to 10007 -/
def Oth (T : Sto) (u : U) : Prop := (∃ b, u = .bl b) ∨ (∃ v : Int, u = .int v ∧ (v < 2 ∨ 10007 < v)) ∨ ∃ n, tyU T u = some n ∧ kitB n "int" = some false
theorem Oth.kp {T T' : Sto} {u : U} (h : Oth T u) (k : Kp T T') : Oth T' u := by
  rcases h with h | h | ⟨n, h1, h2⟩
  · exact .inl h
  · exact .inr (.inl h)
  · exact .inr (.inr ⟨n, tyU_kp k h1, h2⟩)
theorem ip_no {u : U} (h : Oth T u) (q : Q (.bl false) T) : Wp (kdG .len 1 Fn.g_is_prime [u] T) Q := by
  refine len_wp rfl ?_
  show Wp (gDef 2 Fn.f_is_prime _ _) _
  refine gDef_wp ?_
  unfold Fn.f_is_prime
  rfl'
  rcases h with ⟨b, rfl⟩ | ⟨v, rfl, hv⟩ | ⟨n, h1, h2⟩
  · refine iwL_bl (g := Fn.g_is_within) rfl ?_
    rfl'
    exact q
  · refine iwL_out (g := Fn.g_is_within) rfl hv ?_
    rfl'
    exact q
  · refine iwL_no (g := Fn.g_is_within) rfl h1 h2 ?_
    rfl'
    exact q
end
/-! ## the odd things -/
def Od (T : Sto) (u : U) (k b : Nat) : Prop := RpD T u k b ∧ Oth T u
theorem Od.kp {T T' : Sto} {u : U} {k b : Nat} (h : Od T u k b) (e : Kp T T') : Od T' u k b := ⟨h.1.kp e, h.2.kp e⟩
theorem Od.ty {T : Sto} {u : U} {k b : Nat} {n : String} (h : RpD T u k b) (h1 : tyU T u = some n) (h2 : kitB n "int" = some false) : Od T u k b := ⟨h, .inr (.inr ⟨n, h1, h2⟩)⟩
theorem RpDs.one {T : Sto} {u : U} {k b : Nat} (h : RpD T u k b) : RpDs T [u] k (b + 1) := RpDs.cons h .nil
theorem rp7 {T : Sto} {k : Nat} : RpD T (.int 7) k 0 := .mono (.sm ⟨by decide, by decide⟩) (Nat.zero_le _) (Nat.le_refl _)
theorem rp5 {T : Sto} {k : Nat} : RpD T (.int 5) k 0 := .mono (.sm ⟨by decide, by decide⟩) (Nat.zero_le _) (Nat.le_refl _)
theorem Ext.apps {i : Nat} {T T1 : Sto} (e : Ext i T T1) (os : Sto) : Ext i T (T1 ++ os) := by
  obtain ⟨o, h, u⟩ := e.urn
  refine ⟨⟨o, by rw [List.getElem?_append_left (List.getElem?_eq_some_iff.mp h).1]; exact h, u⟩, fun j h1 h2 => ?_, by have := e.le; simp; omega⟩
  rw [List.getElem?_append_left (Nat.lt_of_lt_of_le h2 e.le)]
  exact e.kp j h1 h2
local macro_rules | `(tactic| bv_omega) => `(tactic| repeat (first | with_reducible refine Lf.kS_nx ?_ | with_reducible refine Lf.kS_rt ?_ | with_reducible refine Lf.kS_bk ?_ | with_reducible refine Lf.kS_ct ?_ | with_reducible refine Lf.kD_rt ?_ | with_reducible refine Lf.kD_nx ?_ | with_reducible refine Lf.kF_nx ?_ | with_reducible refine Lf.kF_ct ?_ | with_reducible refine Lf.kF_bk ?_ | with_reducible refine Lf.kF_rt ?_ | with_reducible refine Lf.v_ifT ?_ | with_reducible refine Lf.v_ifF ?_ | with_reducible refine Lf.v_ifNT ?_ | with_reducible refine Lf.v_ifNF ?_ | with_reducible refine Lf.kP_int ?_ | with_reducible refine Lf.kP_bl ?_ | with_reducible refine Lf.kP_str ?_ | with_reducible refine Lf.kP_non ?_ | with_reducible refine Lf.v_iadd ?_ | with_reducible refine Lf.Wp.ok ?_ | with_reducible refine Lf.seq_wp ?_ | with_reducible refine Lf.v_bin ?_ | with_reducible refine Lf.v_cons ?_ | with_reducible refine Lf.v_call ?_ | with_reducible refine Lf.v_ret ?_ | with_reducible refine Lf.v_set ?_ | with_reducible refine Lf.v_asg ?_ | with_reducible refine Lf.v_if ?_ | with_reducible refine Lf.v_ifE ?_ | with_reducible refine Lf.v_bl ?_ | with_reducible refine Lf.v_tru ?_ | with_reducible refine Lf.v_and ?_ | with_reducible refine Lf.v_or ?_ | with_reducible refine Lf.v_not ?_ | with_reducible refine Lf.v_andV ?_ | with_reducible refine Lf.v_orV ?_ | with_reducible refine Lf.v_notV ?_ | with_reducible refine Lf.v_c ?_ | with_reducible refine Lf.v_nil ?_ | with_reducible refine Lf.v_skip ?_ | with_reducible refine Lf.v_drop ?_ | with_reducible refine Lf.v_retN ?_ | with_reducible refine Lf.v_brk ?_ | with_reducible refine Lf.v_cnt ?_ | with_reducible refine Lf.v_nm ?_ | with_reducible refine Lf.v_gnil ?_ | with_reducible refine Lf.v_gcons ?_ | with_reducible refine Lf.v_yes ?_ | with_reducible refine Lf.v_for ?_ | with_reducible refine Lf.v_lc ?_ | with_reducible refine Lf.v_rg ?_ | with_reducible refine Lf.v_iter ?_ | with_reducible refine Lf.v_iterT ?_ | with_reducible refine Lf.v_add ?_ | with_reducible refine Lf.v_sub ?_ | with_reducible refine Lf.v_neg ?_ | with_reducible refine Lf.v_lt ?_ | with_reducible refine Lf.v_le ?_ | with_reducible refine Lf.v_gt ?_ | with_reducible refine Lf.v_ge ?_ | with_reducible refine Lf.v_eqI ?_ | with_reducible refine Lf.v_neI ?_ | with_reducible refine Lf.v_abs ?_ | with_reducible refine Lf.v_intI ?_ | with_reducible refine Lf.v_intB ?_ | with_reducible refine Lf.v_max2 ?_ | with_reducible refine Lf.v_min2 ?_ | with_reducible refine Lf.v_lenT ?_ | with_reducible refine Lf.v_lenN ?_ | with_reducible refine Lf.v_nw ?_ | with_reducible refine Lf.v_un ?_ | with_reducible refine Lf.v_tup ?_ | with_reducible refine Lf.v_lst ?_ | with_reducible refine Lf.v_par2 ?_ | with_reducible refine Lf.v_par3 ?_ | with_reducible refine Lf.v_chain ?_ | with_reducible refine Lf.v_meth ?_ | with_reducible refine Lf.v_subT ?_ | with_reducible refine Lf.v_isiIB ?_ | with_reducible refine Lf.v_isiII ?_ | with_reducible refine Lf.v_sl ?_ | with_reducible refine Lf.v_noP ?_ | with_reducible refine Lf.v_pt ?_ | with_reducible refine Lf.v_cutT ?_ | ((with_reducible apply Lf.v_var); exact rfl) | ((with_reducible refine Lf.v_kw ?_ ?_); exact rfl) | ((with_reducible apply Lf.v_iterO); first | exact rfl | assumption) | ((with_reducible apply Lf.v_lenL); first | exact rfl | assumption) | ((with_reducible refine Lf.v_unp ?_ ?_); exact rfl) | ((with_reducible apply Lf.v_aug); exact rfl) | ((with_reducible refine Lf.v_mod ?_ ?_); first | decide | omega | assumption | fail) | ((with_reducible refine Lf.v_div ?_ ?_); first | exact ⟨by decide, by decide +kernel⟩ | assumption | exact Lf.log2d (by omega) ⟨by omega, by omega⟩ | fail) | ((with_reducible refine Lf.v_mul ?_ ?_); first | exact Lf.log2m ⟨by omega, by omega⟩ ⟨by omega, by omega⟩ | exact Lf.log2m (by assumption) ⟨by omega, by omega⟩ | exact Lf.log2m ⟨by omega, by omega⟩ (by assumption) | fail) | ((with_reducible refine Lf.v_pow ?_ ?_); exact ⟨by decide, by decide, by decide⟩) | ((with_reducible refine Lf.v_rg1 ?_ ?_); first | decide | fail) | ((with_reducible apply Lf.v_ixL); (first | exact rfl | assumption | fail); (first | exact rfl | assumption | fail)) | ((with_reducible apply Lf.v_ixT); (first | exact rfl | assumption | fail)) | ((with_reducible apply Lf.v_ixN); (first | exact rfl | assumption | fail)) | with_reducible refine ⟨_, rfl, ?_⟩ | (refine ⟨_, (rfl : Lf.tru _ (Lf.U.bl _) = some _), ?_⟩) | with_reducible refine ⟨_, _, rfl, ?_⟩ | with_reducible refine ⟨_, _, _, rfl, ?_⟩ | (refine ⟨(Nat.le_of_ble_eq_true rfl : List.length _ ≤ 16777216), ?_⟩) | with_reducible refine Lf.v_enum ?_ | with_reducible refine Lf.v_eqS0 ?_ | with_reducible refine Lf.v_neT ?_ | with_reducible refine Lf.v_ix0 ?_ | with_reducible refine Lf.v_tupleT ?_ | with_reducible refine Lf.v_listT ?_ | with_reducible refine Lf.v_revT ?_ | with_reducible refine Lf.v_dic0 ?_ | with_reducible refine Lf.v_dic1 ?_ | ((with_reducible apply Lf.isl_and); (first | exact rfl | assumption | fail)) | ((with_reducible apply Lf.v_appZ); (first | exact rfl | assumption | fail); (first | omega | (simp only [List.length_append, List.length_map, List.length_cons, List.length_nil]; omega) | (simp; omega) | fail)) | ((with_reducible apply Lf.v_tupleL); (first | exact rfl | assumption | fail)) | ((with_reducible apply Lf.v_listL); (first | exact rfl | assumption | fail)) | ((with_reducible refine Lf.v_yesd ?_ ?_); (first | (with_reducible rfl) | assumption | (exact fun z => z rfl) | decide +kernel | omega | fail)) | ((with_reducible refine Lf.v_nod ?_ ?_); (first | (with_reducible rfl) | assumption | (exact fun z => z rfl) | decide +kernel | omega | fail)) | ((with_reducible refine Lf.v_yesn ?_ ?_); (first | (with_reducible rfl) | assumption | (exact fun z => z rfl) | decide +kernel | omega | fail)) | ((with_reducible refine Lf.v_non ?_ ?_); (first | (with_reducible rfl) | assumption | (exact fun z => z rfl) | decide +kernel | omega | fail)) | ((with_reducible refine Lf.kP_tup ?_ ?_); first | exact rfl | exact Lf.nrs_ints _ | assumption | fail) | ((with_reducible refine Lf.v_rg1 ?_ ?_); exact Lf.small62_of (by omega) (by omega)) | fail))
theorem odd_ok {ii : Nat} {T : Sto} {Q : U → Sto → Prop} (a : ∃ o, T[ii]? = some o ∧ Urn o) (q : ∀ u T', Ext ii T T' → Od (msk ii T') u 20 64 → Q u T') : Wp (kdG .len 1 Fn.g_law_odd [.ob ii] T) Q := by
  refine len_wp rfl ?_
  show Wp (gDef 5 Fn.f_law_odd _ _) _
  refine gDef_wp ?_
  unfold Fn.f_law_odd
  bv_omega
  refine takeE (g := Fn.g_law_take) rfl a (by decide) ⟨by decide, by decide⟩ fun j T1 j0 j1 e1 _ => ?_
  bv_omega
  have e40 : (10 : Int) ^ Int.toNat 40 = 10000000000000000000000000000000000000000 := by decide +kernel
  rw [e40]
  refine v_mul (log2m ⟨by omega, by omega⟩ ⟨by omega, by omega⟩) ?_
  bv_omega
  have hnum : ∃ v : Int, v = j * 10000000000000000000000000000000000000000 + 7 ∧ 7 ≤ v ∧ v < 100000000000000000000000000000000000000000000000000000000000000000000000000000000000000000 := ⟨_, rfl, by omega, by omega⟩
  obtain ⟨v, ev, v0, v1⟩ := hnum
  rw [← ev]
  generalize eT2 : T1 ++ [O.lst [U.int 7]] ++ [O.dic []] ++ [O.dic [(U.str (Str.ofString "p"), U.int 7)]] = T2
  have eT3 : ∃ T3, T3 = T2 ++ [O.lst [U.non, U.bl true, U.bl false, U.str (Str.ofString ""), U.str (Str.ofString "7"), U.tup [], U.tup [U.int 7], U.ob (List.length T1), U.ob (List.length (T1 ++ [O.lst [U.int 7]])), U.ob (List.length (T1 ++ [O.lst [U.int 7]] ++ [O.dic []])), U.int (v + 10008), U.int (0 - v), U.int 10009, U.tup [U.str (Str.ofString "7"), U.int 7]]] := ⟨_, rfl⟩
  obtain ⟨T3, eT3⟩ := eT3
  rw [← eT3]
  have e3 : Ext ii T T3 := by
    rw [eT3, ← eT2]
    simp only [List.append_assoc]
    exact Ext.apps e1 _
  obtain ⟨o1, ho1, _⟩ := e1.urn
  have hi1 := lt_at ho1
  have l1 : T3[T1.length]? = some (.lst [U.int 7]) := by rw [eT3, ← eT2]; simp
  have l2 : T3[(T1 ++ [O.lst [U.int 7]]).length]? = some (.dic []) := by rw [eT3, ← eT2]; simp
  have l3 : T3[(T1 ++ [O.lst [U.int 7]] ++ [O.dic []]).length]? = some (.dic [(U.str (Str.ofString "p"), U.int 7)]) := by rw [eT3, ← eT2]; simp
  have l4 : T3[T2.length]? = some (O.lst [U.non, U.bl true, U.bl false, U.str (Str.ofString ""), U.str (Str.ofString "7"), U.tup [], U.tup [U.int 7], U.ob (List.length T1), U.ob (List.length (T1 ++ [O.lst [U.int 7]])), U.ob (List.length (T1 ++ [O.lst [U.int 7]] ++ [O.dic []])), U.int (v + 10008), U.int (0 - v), U.int 10009, U.tup [U.str (Str.ofString "7"), U.int 7]]) := by rw [eT3]; simp
  have n4 : ii ≠ T2.length := by rw [← eT2]; simp; omega
  refine ofE (tk := Fn.g_law_take) (g := Fn.g_law_of) rfl rfl e3.urn l4 n4 (by simp) (Nat.le_of_ble_eq_true rfl) fun x T4 hx e4 _ => ?_
  have hod : Od (msk ii T3) x 2 10 := by
    have m1 : (msk ii T3)[T1.length]? = some (.lst [U.int 7]) := by rw [msk_ne (by omega)]; exact l1
    have m2 : (msk ii T3)[(T1 ++ [O.lst [U.int 7]]).length]? = some (.dic []) := by rw [msk_ne (by simp; omega)]; exact l2
    have m3 : (msk ii T3)[(T1 ++ [O.lst [U.int 7]] ++ [O.dic []]).length]? = some (.dic [(U.str (Str.ofString "p"), U.int 7)]) := by rw [msk_ne (by simp; omega)]; exact l3
    clear l1 l2 l3 l4 n4 eT3 e4 ho1 e1
    generalize T1.length = n1 at hx m1
    generalize (T1 ++ [O.lst [U.int 7]]).length = n2 at hx m2
    generalize (T1 ++ [O.lst [U.int 7]] ++ [O.dic []]).length = n3 at hx m3
    simp only [List.mem_cons, List.not_mem_nil, or_false] at hx
    have s0 : (Str.ofString "").cps.size = 0 := by decide +kernel
    have s7 : (Str.ofString "7").cps.size = 1 := by decide +kernel
    have sp : (Str.ofString "p").cps.size = 1 := by decide +kernel
    rcases hx with rfl | rfl | rfl | rfl | rfl | rfl | rfl | rfl | rfl | rfl | rfl | rfl | rfl | rfl
    · exact .ty (n := "NoneType") (.mono .non (by decide) (by decide)) rfl rfl
    · exact ⟨.mono (.bl _) (by decide) (by decide), .inl ⟨_, rfl⟩⟩
    · exact ⟨.mono (.bl _) (by decide) (by decide), .inl ⟨_, rfl⟩⟩
    · exact .ty (n := "str") (.mono (.str (by decide +kernel)) (by decide) (by omega)) rfl rfl
    · exact .ty (n := "str") (.mono (.str (by decide +kernel)) (by decide) (by omega)) rfl rfl
    · exact .ty (n := "tuple") (.mono (.tup (.nil (k := 0))) (by decide) (by omega)) rfl rfl
    · exact .ty (n := "tuple") (.mono (.tup (k := 0) (RpDs.one rp7)) (by decide) (by omega)) rfl rfl
    · exact .ty (n := "list") (.mono (.ob (k := 0) m1 (RpDs.one rp7)) (by decide) (by omega)) (by unfold tyU; simp only [m1]) rfl
    · exact .ty (n := "dict") (.mono (.dic0 m2) (by decide) (by omega)) (by unfold tyU; simp only [m2]) rfl
    · exact .ty (n := "dict") (.mono (.dic (k := 0) m3 (.cons (by decide +kernel) rp7 .nil)) (by decide) (by omega)) (by unfold tyU; simp only [m3]) rfl
    · exact ⟨.mono (.sm ⟨by omega, by omega⟩) (by decide) (by decide), .inr (.inl ⟨_, rfl, .inr (by omega)⟩)⟩
    · exact ⟨.mono (.sm ⟨by omega, by omega⟩) (by decide) (by decide), .inr (.inl ⟨_, rfl, .inl (by omega)⟩)⟩
    · exact ⟨.mono (.sm ⟨by decide, by decide⟩) (by decide) (by decide), .inr (.inl ⟨_, rfl, .inr (by decide)⟩)⟩
    · exact .ty (n := "tuple") (.mono (.tup (k := 0) (.cons (.str (by decide +kernel)) (RpDs.one rp7))) (by decide) (by omega)) rfl rfl
  have hod4 : Od (msk ii T4) x 2 10 := hod.kp e4.msk
  have e04 : Ext ii T T4 := e3.trans e4
  clear hod hx l1 l2 l3 l4 n4 eT3 eT2 ho1 e1 e3 e4 hi1
  bv_omega
  have l5 : (T4 ++ [O.lst [U.int 0, U.int 0, U.int 1, U.int 2, U.int 18]])[T4.length]? = some (.lst [U.int 0, U.int 0, U.int 1, U.int 2, U.int 18]) := by simp
  have e5 : Ext ii T (T4 ++ [O.lst [U.int 0, U.int 0, U.int 1, U.int 2, U.int 18]]) := Ext.apps e04 _
  obtain ⟨o4, ho4, _⟩ := e04.urn
  have hi4 := lt_at ho4
  have hod5 := hod4.kp (T' := msk ii (T4 ++ [O.lst [U.int 0, U.int 0, U.int 1, U.int 2, U.int 18]])) (Ext.msk (Ext.apps (.refl ho4 (by assumption)) _))
  refine ofE (tk := Fn.g_law_take) (g := Fn.g_law_of) rfl rfl e5.urn l5 (by omega) (by simp) (by decide) fun y T5 hy e6 _ => ?_
  have e7 := e5.trans e6
  have hod6 := hod5.kp e6.msk
  clear hod5 hod4 e5 e6 l5 ho4 hi4 e04
  have hy : ∃ n : Nat, y = .int n ∧ n ≤ 18 := by
    simp only [List.mem_cons, List.not_mem_nil, or_false] at hy
    rcases hy with rfl | rfl | rfl | rfl | rfl
    · exact ⟨0, rfl, by decide⟩
    · exact ⟨0, rfl, by decide⟩
    · exact ⟨1, rfl, by decide⟩
    · exact ⟨2, rfl, by decide⟩
    · exact ⟨18, rfl, by decide⟩
  obtain ⟨n, rfl, hn⟩ := hy
  bv_omega
  refine wp_forC (fun r η T' => Ext ii T T' ∧ r.length ≤ 18 ∧ ∃ u o1 o2 o4, Od (msk ii T') u (20 - r.length) (64 - 3 * r.length) ∧ η = [some (.ob ii), o1, o2, some u, o4]) ⟨e7, by rw [rgU_len]; omega, x, _, _, _, ⟨hod6.1.mono (by rw [rgU_len]; omega) (by rw [rgU_len]; omega), hod6.2⟩, rfl⟩ (fun z r η T' ⟨e8, hr, u, o1, o2, o4, hu, e⟩ => ?_) (fun η T' ⟨e8, hr, u, o1, o2, o4, hu, e⟩ => ?_)
  · subst e
    rw [List.length_cons] at hr hu
    bv_omega
    generalize eA : T' ++ [O.lst [u]] ++ [O.dic [(U.str (Str.ofString "a"), u)]] = A
    obtain ⟨B, eB⟩ : ∃ B, B = A ++ [O.lst [U.tup [u], U.ob (List.length T'), U.ob (List.length (T' ++ [O.lst [u]])), U.tup [u, U.int 5]]] := ⟨_, rfl⟩
    rw [← eB]
    obtain ⟨o8, ho8, u8⟩ := e8.urn
    have hi8 := lt_at ho8
    have eTB : Ext ii T' B := by
      rw [eB, ← eA]
      simp only [List.append_assoc]
      exact Ext.apps (.refl ho8 u8) _
    have l1 : B[T'.length]? = some (.lst [u]) := by rw [eB, ← eA]; simp
    have l2 : B[(T' ++ [O.lst [u]]).length]? = some (.dic [(U.str (Str.ofString "a"), u)]) := by rw [eB, ← eA]; simp
    have l3 : B[A.length]? = some (O.lst [U.tup [u], U.ob (List.length T'), U.ob (List.length (T' ++ [O.lst [u]])), U.tup [u, U.int 5]]) := by rw [eB]; simp
    have n3 : A.length ≠ ii := by rw [← eA]; simp; omega
    have huB := hu.kp eTB.msk
    have m1 : (msk ii B)[T'.length]? = some (.lst [u]) := by rw [msk_ne (by omega)]; exact l1
    have m2 : (msk ii B)[(T' ++ [O.lst [u]]).length]? = some (.dic [(U.str (Str.ofString "a"), u)]) := by rw [msk_ne (by simp; omega)]; exact l2
    refine takeE (g := Fn.g_law_take) rfl eTB.urn (by decide) ⟨by decide, by decide⟩ fun j' C j0' j1' eC _ => ?_
    have l4 := eC.at_ l3 n3
    obtain ⟨w, hw, hm⟩ := atI_mem (xs := [U.tup [u], U.ob (List.length T'), U.ob (List.length (T' ++ [O.lst [u]])), U.tup [u, U.int 5]]) j0' (by simpa using j1')
    refine v_ixL l4 hw ?_
    have sa : (Str.ofString "a").cps.size = 1 := by decide +kernel
    have hwd : Od (msk ii B) w (20 - r.length) (64 - 3 * r.length) := by
      clear hw l1 l2 l3 l4
      generalize T'.length = n1 at hm m1
      generalize (T' ++ [O.lst [u]]).length = n2 at hm m2
      simp only [List.mem_cons, List.not_mem_nil, or_false] at hm
      rcases hm with rfl | rfl | rfl | rfl
      · exact .ty (n := "tuple") (.mono (.tup (RpDs.one huB.1)) (by omega) (by omega)) rfl rfl
      · exact .ty (n := "list") (.mono (.ob m1 (RpDs.one huB.1)) (by omega) (by omega)) (by unfold tyU; simp only [m1]) rfl
      · exact .ty (n := "dict") (.mono (.dic m2 (.cons (by decide +kernel) huB.1 .nil)) (by omega) (by omega)) (by unfold tyU; simp only [m2]) rfl
      · exact .ty (n := "tuple") (.mono (.tup (.cons huB.1 (RpDs.one rp5))) (by omega) (by omega)) rfl rfl
    refine kF_nx ?_
    exact ⟨(e8.trans eTB).trans eC, by omega, w, _, _, _, hwd.kp eC.msk, rfl⟩
  · subst e
    bv_omega
    exact q u T' e8 ⟨hu.1.mono (by simp) (by simp), hu.2⟩
end Mx


set_option Elab.async false
set_option linter.all false
set_option maxRecDepth 100000
set_option maxHeartbeats 4000000
namespace Mx
open PySem PySem.Spec L2 Lf
theorem str_bl {T : Sto} (b : Bool) : PyData.strOk (shwD T (.bl b)) = true := by
  show PyData.strOk (PyData.bool b).shown = true
  cases b <;> decide +kernel
theorem is_ff {T : Sto} {Q : U → Sto → Prop} (q : Q (.bl false) T) : Wp (gIs true (.bl false) (.bl false) T) Q := .ok q
local macro_rules | `(tactic| bv_omega) => `(tactic| repeat (first | with_reducible refine Lf.kS_nx ?_ | with_reducible refine Lf.kS_rt ?_ | with_reducible refine Lf.kS_bk ?_ | with_reducible refine Lf.kS_ct ?_ | with_reducible refine Lf.kD_rt ?_ | with_reducible refine Lf.kD_nx ?_ | with_reducible refine Lf.kF_nx ?_ | with_reducible refine Lf.kF_ct ?_ | with_reducible refine Lf.kF_bk ?_ | with_reducible refine Lf.kF_rt ?_ | with_reducible refine Lf.v_ifT ?_ | with_reducible refine Lf.v_ifF ?_ | with_reducible refine Lf.v_ifNT ?_ | with_reducible refine Lf.v_ifNF ?_ | with_reducible refine Lf.kP_int ?_ | with_reducible refine Lf.kP_bl ?_ | with_reducible refine Lf.kP_str ?_ | with_reducible refine Lf.kP_non ?_ | with_reducible refine Lf.v_iadd ?_ | with_reducible refine Lf.Wp.ok ?_ | with_reducible refine Lf.seq_wp ?_ | with_reducible refine Lf.v_bin ?_ | with_reducible refine Lf.v_cons ?_ | with_reducible refine Lf.v_call ?_ | with_reducible refine Lf.v_ret ?_ | with_reducible refine Lf.v_set ?_ | with_reducible refine Lf.v_asg ?_ | with_reducible refine Lf.v_if ?_ | with_reducible refine Lf.v_ifE ?_ | with_reducible refine Lf.v_bl ?_ | with_reducible refine Lf.v_tru ?_ | with_reducible refine Lf.v_and ?_ | with_reducible refine Lf.v_or ?_ | with_reducible refine Lf.v_not ?_ | with_reducible refine Lf.v_andV ?_ | with_reducible refine Lf.v_orV ?_ | with_reducible refine Lf.v_notV ?_ | with_reducible refine Lf.v_c ?_ | with_reducible refine Lf.v_nil ?_ | with_reducible refine Lf.v_skip ?_ | with_reducible refine Lf.v_drop ?_ | with_reducible refine Lf.v_retN ?_ | with_reducible refine Lf.v_brk ?_ | with_reducible refine Lf.v_cnt ?_ | with_reducible refine Lf.v_nm ?_ | with_reducible refine Lf.v_gnil ?_ | with_reducible refine Lf.v_gcons ?_ | with_reducible refine Lf.v_yes ?_ | with_reducible refine Lf.v_for ?_ | with_reducible refine Lf.v_lc ?_ | with_reducible refine Lf.v_rg ?_ | with_reducible refine Lf.v_iter ?_ | with_reducible refine Lf.v_iterT ?_ | with_reducible refine Lf.v_add ?_ | with_reducible refine Lf.v_sub ?_ | with_reducible refine Lf.v_neg ?_ | with_reducible refine Lf.v_lt ?_ | with_reducible refine Lf.v_le ?_ | with_reducible refine Lf.v_gt ?_ | with_reducible refine Lf.v_ge ?_ | with_reducible refine Lf.v_eqI ?_ | with_reducible refine Lf.v_neI ?_ | with_reducible refine Lf.v_abs ?_ | with_reducible refine Lf.v_intI ?_ | with_reducible refine Lf.v_intB ?_ | with_reducible refine Lf.v_max2 ?_ | with_reducible refine Lf.v_min2 ?_ | with_reducible refine Lf.v_lenT ?_ | with_reducible refine Lf.v_lenN ?_ | with_reducible refine Lf.v_nw ?_ | with_reducible refine Lf.v_un ?_ | with_reducible refine Lf.v_tup ?_ | with_reducible refine Lf.v_lst ?_ | with_reducible refine Lf.v_par2 ?_ | with_reducible refine Lf.v_par3 ?_ | with_reducible refine Lf.v_chain ?_ | with_reducible refine Lf.v_meth ?_ | with_reducible refine Lf.v_subT ?_ | with_reducible refine Lf.v_isiIB ?_ | with_reducible refine Lf.v_isiII ?_ | with_reducible refine Lf.v_sl ?_ | with_reducible refine Lf.v_noP ?_ | with_reducible refine Lf.v_pt ?_ | with_reducible refine Lf.v_cutT ?_ | ((with_reducible apply Lf.v_var); exact rfl) | ((with_reducible refine Lf.v_kw ?_ ?_); exact rfl) | ((with_reducible apply Lf.v_iterO); first | exact rfl | assumption) | ((with_reducible apply Lf.v_lenL); first | exact rfl | assumption) | ((with_reducible refine Lf.v_unp ?_ ?_); exact rfl) | ((with_reducible apply Lf.v_aug); exact rfl) | ((with_reducible refine Lf.v_mod ?_ ?_); first | decide | omega | assumption | fail) | ((with_reducible refine Lf.v_div ?_ ?_); first | exact ⟨by decide, by decide +kernel⟩ | assumption | exact Lf.log2d (by omega) ⟨by omega, by omega⟩ | fail) | ((with_reducible refine Lf.v_mul ?_ ?_); first | exact Lf.log2m ⟨by omega, by omega⟩ ⟨by omega, by omega⟩ | exact Lf.log2m (by assumption) ⟨by omega, by omega⟩ | exact Lf.log2m ⟨by omega, by omega⟩ (by assumption) | fail) | ((with_reducible refine Lf.v_pow ?_ ?_); exact ⟨by decide, by decide, by decide⟩) | ((with_reducible refine Lf.v_rg1 ?_ ?_); first | decide | fail) | ((with_reducible apply Lf.v_ixL); (first | exact rfl | assumption | fail); (first | exact rfl | assumption | fail)) | ((with_reducible apply Lf.v_ixT); (first | exact rfl | assumption | fail)) | ((with_reducible apply Lf.v_ixN); (first | exact rfl | assumption | fail)) | with_reducible refine ⟨_, rfl, ?_⟩ | (refine ⟨_, (rfl : Lf.tru _ (Lf.U.bl _) = some _), ?_⟩) | with_reducible refine ⟨_, _, rfl, ?_⟩ | with_reducible refine ⟨_, _, _, rfl, ?_⟩ | (refine ⟨(Nat.le_of_ble_eq_true rfl : List.length _ ≤ 16777216), ?_⟩) | with_reducible refine Lf.v_enum ?_ | with_reducible refine Lf.v_eqS0 ?_ | with_reducible refine Lf.v_neT ?_ | with_reducible refine Lf.v_ix0 ?_ | with_reducible refine Lf.v_tupleT ?_ | with_reducible refine Lf.v_listT ?_ | with_reducible refine Lf.v_revT ?_ | with_reducible refine Lf.v_dic0 ?_ | with_reducible refine Lf.v_dic1 ?_ | ((with_reducible apply Lf.isl_and); (first | exact rfl | assumption | fail)) | ((with_reducible apply Lf.v_appZ); (first | exact rfl | assumption | fail); (first | omega | (simp only [List.length_append, List.length_map, List.length_cons, List.length_nil]; omega) | (simp; omega) | fail)) | ((with_reducible apply Lf.v_tupleL); (first | exact rfl | assumption | fail)) | ((with_reducible apply Lf.v_listL); (first | exact rfl | assumption | fail)) | ((with_reducible refine Lf.v_yesd ?_ ?_); (first | (with_reducible rfl) | assumption | (exact fun z => z rfl) | decide +kernel | omega | fail)) | ((with_reducible refine Lf.v_nod ?_ ?_); (first | (with_reducible rfl) | assumption | (exact fun z => z rfl) | decide +kernel | omega | fail)) | ((with_reducible refine Lf.v_yesn ?_ ?_); (first | (with_reducible rfl) | assumption | (exact fun z => z rfl) | decide +kernel | omega | fail)) | ((with_reducible refine Lf.v_non ?_ ?_); (first | (with_reducible rfl) | assumption | (exact fun z => z rfl) | decide +kernel | omega | fail)) | ((with_reducible refine Lf.kP_tup ?_ ?_); first | exact rfl | exact Lf.nrs_ints _ | assumption | fail) | ((with_reducible refine Lf.v_rg1 ?_ ?_); exact Lf.small62_of (by omega) (by omega)) | fail))
theorem law_true (ns : List Int) : ∃ T, Fn.g_law [.scr ns] [] = .ok (.bl true) T := by
  suffices h : Wp (Fn.g_law [.scr ns] []) fun u T => u = .bl true by
    obtain ⟨u, T, e, rfl⟩ := h
    exact ⟨T, e⟩
  refine gDef_wp ?_
  unfold Fn.f_law
  bv_omega
  refine sieve_ok ?_
  obtain ⟨j0, v0, r0, hD⟩ := prD_cons
  obtain ⟨T0, eT0⟩ : ∃ T0 : Sto, T0 = [] ++ [O.dic prD] := ⟨_, rfl⟩
  have h0 : T0[0]? = some (O.dic prD) := by rw [eT0]; rfl
  rw [← eT0]
  rw [show List.length ([] : Sto) = 0 from rfl]
  clear eT0
  bv_omega
  refine v_rg2 (by decide) ?_
  refine wp_lcI (fun _ => U.bl true) (fun T => T = T0) rfl (by rw [rgU_len]; decide) (fun i x T hx eT => ?_) (fun T eT => ?_)
  · subst eT
    obtain ⟨rfl, _⟩ := rgU_at hx
    bv_omega
    refine ⟨rfl, ?_⟩
    bv_omega
    refine ip_int ?_
    bv_omega
    refine v_reprRD (.bl _) (by decide) (by decide) ?_
    bv_omega
    refine v_inDic (by rw [h0, hD]) ?_
    rw [← hD, prD_has]
    bv_omega
    refine v_reprRD (.bl _) (by decide) (by decide) ?_
    refine v_eqS (str_bl _) (str_bl _) ?_
    exact ⟨by rw [decide_eq_true rfl], rfl⟩
  · subst eT
    bv_omega
    refine v_allM (bs := (List.range (rgU (-5) (10201 - -5 : Int).toNat).length).map fun _ => true) ?_ ?_
    · rw [List.map_map]
      exact List.getElem?_concat_length
    rw [show ((List.range (rgU (-5) (10201 - -5 : Int).toNat).length).map fun _ => true).all id = true by simp]
    obtain ⟨T2, eT2⟩ : ∃ T2, T2 = T ++ [O.lst (List.map (fun x => U.bl true) (List.range (rgU (-5) (10201 - -5 : Int).toNat).length))] := ⟨_, rfl⟩
    rw [← eT2]
    clear eT2
    bv_omega
    refine wp_forC (fun r η T => (∀ x ∈ r, ∃ i, x = .int i ∧ 0 ≤ i ∧ i < 3) ∧ ∃ o3 o4 o5 o6 o7, η = [some (.scr ns), some (.ob 0), none, o3, o4, o5, o6, o7]) ⟨fun x hx => ?_, _, _, _, _, _, rfl⟩ (fun x r η T ⟨h1, o3, o4, o5, o6, o7, e⟩ => ?_) (fun η T ⟨h1, o3, o4, o5, o6, o7, e⟩ => ?_)
    · obtain ⟨i, e, a, b⟩ := rgU_mem hx
      exact ⟨i, e, a, by omega⟩
    · subst e
      obtain ⟨i, rfl, i1, i2⟩ := h1 x (List.mem_cons_self ..)
      bv_omega
      refine urA_ok rfl i1 (by omega) fun o u => ?_
      bv_omega
      have hT : ∃ o', (T ++ [o])[T.length]? = some o' ∧ Urn o' := ⟨o, by simp, u⟩
      generalize T ++ [o] = T1 at hT ⊢
      generalize T.length = ii at hT ⊢
      refine wp_forC (fun r η T => (∃ o', T[ii]? = some o' ∧ Urn o') ∧ ∃ o5 o6 o7, η = [some (.scr ns), some (.ob 0), none, some (.int i), some (.ob ii), o5, o6, o7]) ⟨hT, _, _, _, rfl⟩ (fun x r3 η T ⟨hu, o5, o6, o7, e⟩ => ?_) (fun η T ⟨hu, o5, o6, o7, e⟩ => ?_)
      · subst e
        bv_omega
        refine odd_ok hu fun w T5 e5 hw => ?_
        have hw5 := hw.kp Kp.msk
        bv_omega
        refine v_reprRD hw5.1 (by decide) (by decide) ?_
        bv_omega
        refine ip_no hw5.2 ?_
        bv_omega
        refine is_ff ?_
        bv_omega
        refine ip_no hw5.2 ?_
        bv_omega
        refine is_ff ?_
        bv_omega
        refine v_reprRD hw5.1 (by decide) (by decide) ?_
        bv_omega
        exact ⟨e5.urn, _, _, _, rfl⟩
      · subst e
        bv_omega
        exact ⟨fun x hx => h1 x (List.mem_cons_of_mem _ hx), _, _, _, _, _, rfl⟩
    · subst e
      bv_omega
      rfl
end Mx


set_option Elab.async false
set_option linter.all false
set_option maxRecDepth 100000
set_option maxHeartbeats 0
open PySem PySem.W PySem.Calls PyProof.Rows in
set_option maxRecDepth 100000 in
set_option maxHeartbeats 0 in
theorem PySem.Challenge.cw_leastjournal_k01_primes_of_any_value_holds : PySem.Challenge.rw_leastjournal_k01_primes_of_any_value.Holds := by
  w_on; o_law
  refine HandSHeadRun.head_any (r := OpenLaw.row PySem.Challenge.rw_leastjournal_k01_primes_of_any_value) (q := view (OpenLaw.row PySem.Challenge.rw_leastjournal_k01_primes_of_any_value).prog [11]) (H := Hd.hk) (ob := Hd.ob) (M := Hd.steps) (loose := Hd.loose) (d := HandSHeadRun.topDef (OpenLaw.row PySem.Challenge.rw_leastjournal_k01_primes_of_any_value).prog 11) (kwd := []) Hd.ob_eq
    (by kernel_rfl) (fun s => by kernel_rfl) Hd.run (by kernel_rfl) (by kernel_rfl) (by kernel_rfl) (by rfl) (by first | assumption | decide +kernel) (by decide +kernel) ⟨rfl, rfl, rfl, rfl, rfl, by decide +kernel⟩ ?hw ?hc
  case hw => w_witness2
  case hc =>
    refine Lf.walk_end (l := PySem.Challenge.rw_leastjournal_k01_primes_of_any_value) (n := 63) (k := 5) (x := "_law_script") rfl (by decide) (by kernel_rfl) ⟨rfl, by decide, by decide⟩ ?F
    intro w mg fa h Y G hmg0
    obtain ⟨K, KX, c⟩ := Y
    have hmg : mg ("law" : PySem.Str) = some (.ref fa) := by
      have e : (HandSHeadRun.topDef (OpenLaw.row PySem.Challenge.rw_leastjournal_k01_primes_of_any_value).prog 11).name = ("law" : PySem.Str) := by kernel_rfl
      rw [← e]
      exact hmg0
    obtain ⟨fd, hb, hF⟩ := Fn.facts (P := (PySem.Challenge.rw_leastjournal_k01_primes_of_any_value).prog) (w := w) KX G hmg c
    exact ⟨K, fd, Fn.g_law, KX, hb, fun ns _ => Mx.law_true ns, hF⟩

